import PyProof.Rows.All
import Wide.All
import OpenK.AllK
import Wide.FinOn
import KE.KStateDown
import Lean
import HandS.ForMost
import HandS.Flow
import HandS.Style
import HandS.Wide
import HandS.IsInst
import HandS.TupAny
import HandS.More
import HandS.WordsExc
import HandS.Defaults
import HandS.Lambda
import HandS.Head0
import HandS.Head1
import HandS.Head2
import HandS.HeadEnd
import HandS.HeadHook1
import HandS.HeadHook2
import HandS.EndBits
import HandS.RaiseMore
import HandS.MakeKw
import HandS.MakeKwOnly
import HandS.SortKw
import HandS.EndTab
import HandS.Walk
import HandS.TryOnly
import HandS.StrSplit
import HandS.ListItems
import HandS.DictComp
import HandS.Set
import HandS.SetTxt0
import HandS.SetBool
import HandS.SetFor
import HandS.Strs
import HandS.Deep
import HandS.Finally
import HandS.Zip
import HandS.Conv
import HandS.NoneIn
import HandS.ExcInit
import HandS.ExcField
import HandS.ExcOwn
import KE.KExcIs
import HandS.HeadHook3
import HandS.HeadHook4
import HandS.HeadWalk
import HandS.WrittenGet
import KE.KRevSl
import KE.KDictZip
import KE.KTurns
import HandS.ExcCtx
import HandS.HotCalls
import KE.KDictSum
import HandS.Nested
import KE.KDflt
import PySem.Challenge.RW_controlplane_k08_known_kinds
section
set_option Elab.async false
set_option linter.all false
set_option maxRecDepth 100000
set_option maxHeartbeats 4000000
namespace Lk
open PySem PySem.Spec PyProof.Rows L2
noncomputable section
/-! ### the heap: what a def with a source of draws leaves -/
/-- all that was tracked, but what stands at a, is as it was -/
def Keep (a : Addr) (H H' : Hp) : Prop := ∀ b o, b ≠ a → H b = some o → H' b = some o
theorem Keep.refl (a : Addr) (H : Hp) : Keep a H H := fun _ _ _ h => h
theorem Keep.trans {a : Addr} {H H1 H2 : Hp} (x : Keep a H H1) (y : Keep a H1 H2) : Keep a H H2 := fun b o n h => y b o n (x b o n h)
theorem Keep.of {a : Addr} {H H1 : Hp} (x : Same H H1) : Keep a H H1 := fun b o _ h => x b o h
theorem Keep.at_ {a : Addr} {H : Hp} {u : HO} : Keep a H (upd H a u) := fun b o n h => by rw [upd_ne n]; exact h
theorem Same.new {H : Hp} {p : Addr} {u : HO} (n : H p = none) : Same H (upd H p u) := fun b o h => by rw [upd_ne (ne_of_none h n)]; exact h
theorem Keep.new {a : Addr} {H : Hp} {p : Addr} {u : HO} (n : H p = none) : Keep a H (upd H p u) := Keep.of (Same.new n)
theorem Keep.seqL {K : PySem.W.Frag} {a b : Addr} {H H1 : Hp} {xs : List V} (x : Keep a H H1) (n : b ≠ a) (h : SqL K H b xs) : SqL K H1 b xs := by
  rcases h with (h | ⟨o, h⟩) | h
  · exact .inl (.inl (x _ _ n h))
  · exact .inl (.inr ⟨o, x _ _ n h⟩)
  · exact .inr h
theorem Keep.seqT {K : PySem.W.Frag} {a b : Addr} {H H1 : Hp} {xs : List V} (x : Keep a H H1) (n : b ≠ a) (h : SqT K H b xs) : SqT K H1 b xs := by
  rcases h with (h | ⟨o, h⟩) | h
  · exact .inl (.inl (x _ _ n h))
  · exact .inl (.inr ⟨o, x _ _ n h⟩)
  · exact .inr h
/-- a flat value: None, a bool, an int, a text -/
def flat : V → Prop
  | .non => True
  | .bl _ => True
  | .int _ => True
  | .str _ => True
  | _ => False
def tyNm : V → Value
  | .non => .type "NoneType"
  | .bl _ => .type "bool"
  | .int _ => .type "int"
  | _ => .type "str"
theorem flat_ty {K : PySem.W.Frag} {H : Hp} {x : V} (h : flat x) : TyX K H x (tyNm x) := by
  cases x with
  | non => exact .base .non
  | bl b => exact .base (.bl b)
  | int i => exact .base (.int i)
  | str z => exact .base (.str z)
  | byt _ => exact h.elim
  | flt _ => exact h.elim
  | ref _ => exact h.elim
  | ty _ => exact h.elim
theorem small3 : (3 : Nat) ≤ sizeLine := by rw [sizeLine_eq]; decide
theorem smallN {n : Nat} (h : n ≤ 1000) : n ≤ sizeLine := Nat.le_of_lt (small1000 h)
theorem yes_ {σ : L2.St} {H : Hp} {Q : Bool → Hp → Prop} (h : Q true H) : tYes σ H Q := h
theorem get_take {α : Type} {xs : List α} {i : Nat} {x : α} (h : xs[i]? = some x) : xs.take (i + 1) = xs.take i ++ [x] := by
  rw [List.take_succ, h]; rfl
theorem mem_at {α : Type} {xs : List α} {i : Nat} {x : α} (h : xs[i]? = some x) : x ∈ xs := List.mem_of_getElem? h
theorem lt_at {α : Type} {xs : List α} {i : Nat} {x : α} (h : xs[i]? = some x) : i < xs.length := (List.getElem?_eq_some_iff.mp h).1
/-! ### flat values as data -/
def dOf : V → PyData
  | .bl b => .bool b
  | .int i => .int i
  | .str z => .str z
  | _ => .none
theorem dp_flat {K : PySem.W.Frag} {H : Hp} {x : V} (h : flat x) : Dp K H x (dOf x) := by
  cases x with
  | non => exact .non
  | bl b => exact .bl b
  | int i => exact .int i
  | str z => exact .str z
  | byt _ => exact h.elim
  | flt _ => exact h.elim
  | ref _ => exact h.elim
  | ty _ => exact h.elim
theorem dps_flat {K : PySem.W.Frag} {H : Hp} : ∀ {xs : List V}, (∀ x ∈ xs, flat x) → DpAll K H xs (xs.map dOf)
  | [], _ => .nil
  | x :: xs, h => .cons (dp_flat (h x (List.mem_cons_self ..))) (dps_flat fun y hy => h y (List.mem_cons_of_mem _ hy))
/-- a text of signs that there are -/
def okS : V → Prop
  | .str z => PyData.strOk z = true
  | _ => True
theorem lay_flat {x : V} (h : okS x) : (dOf x).canLay0 = true := by
  cases x with
  | str z => exact (show PyData.canLay0 (.str z) = true by simpa [PyData.canLay0, okS] using h)
  | _ => simp [dOf, PyData.canLay0]
theorem lays_flat : ∀ {xs : List V}, (∀ x ∈ xs, okS x) → PyData.canLayAll0 (xs.map dOf) = true
  | [], _ => by simp [PyData.canLayAll0]
  | x :: xs, h => by simp [PyData.canLayAll0, lay_flat (h x (List.mem_cons_self ..)), lays_flat (xs := xs) fun y hy => h y (List.mem_cons_of_mem _ hy)]
theorem dep_flat (x : V) : (dOf x).depth = 0 := by cases x <;> simp [dOf, PyData.depth]
theorem deps_flat : ∀ xs : List V, PyData.depthAll (xs.map dOf) = 0
  | [] => by simp [PyData.depthAll]
  | x :: xs => by simp [PyData.depthAll, dep_flat x, deps_flat xs]
theorem sh_flat {x : V} (h : okS x) : SeqAt.shaped (dOf x) = true := by simp [SeqAt.shaped, lay_flat h, dep_flat x]
theorem sh_list {xs : List V} (h : ∀ x ∈ xs, okS x) : SeqAt.shaped (.list (xs.map dOf)) = true := by simp [SeqAt.shaped, PyData.canLay0, PyData.depth, lays_flat h, deps_flat xs]
theorem sh_tup {xs : List V} (h : ∀ x ∈ xs, okS x) : SeqAt.shaped (.tuple (xs.map dOf)) = true := by simp [SeqAt.shaped, PyData.canLay0, PyData.depth, lays_flat h, deps_flat xs]
theorem eqv_nil (xs : List V) : PyData.eqv (.list (xs.map dOf)) (.list []) = xs.isEmpty := by
  cases xs <;> simp [PyData.eqv, PyData.eqvAll]
/-- len of a list or a tuple, within a comprehension -/
def rLenK (K : PySem.W.Frag) : List V → Hp → VK → Prop := fun xs H Q => ∃ p ys, xs = [V.ref p] ∧ (SqL K H p ys ∨ SqT K H p ys) ∧ Q (V.int ys.length) H
/-- dict(pairs), within a comprehension -/
def rDictP (K : PySem.W.Frag) : List V → Hp → VK → Prop := fun xs H Q => ∃ (a : Addr) (ps : List Addr) (kvs : List (Key × V)), xs = [.ref a] ∧ SqL K H a (ps.map V.ref) ∧ Paired (fun p kv => SqT K H p [kV kv.1, kv.2]) ps kvs ∧
  ∀ p, H p = none → Q (.ref p) (upd H p (.dK (mergeK [] kvs)))
theorem lay_same {H H' : Hp} {l : Addr} {u : HO} (e : upd H l u = H') (h : H l = none) : Same H H' := e ▸ Same.new h
theorem lay_at {H H' : Hp} {l : Addr} {u : HO} (e : upd H l u = H') : H' l = some u := e ▸ upd_same
/-- a list that nothing writes -/
def SqF (K : PySem.W.Frag) (H : Hp) (a : Addr) (xs : List V) : Prop := (∃ o, H a = some (.frz o (.lst xs))) ∨ SqL K (fun _ => none) a xs
theorem SqF.seq {K : PySem.W.Frag} {H : Hp} {a : Addr} {xs : List V} (h : SqF K H a xs) : SqL K H a xs := by
  rcases h with ⟨o, h⟩ | ((h | ⟨o, h⟩) | h)
  · exact .inl (.inr ⟨o, h⟩)
  · cases h
  · cases h
  · exact .inr h

/-! ## IV: an interpreter of the fragment, told sound once
### values, objects, outcomes -/
/-- a value; a tuple is a value, what can change is a number -/
inductive DV where
  | non | bl (b : Bool) | int (i : Int) | str (s : Str) | tup (ds : List DV) | obj (n : Nat) | glo (x : Str) | ty (n : String) | exn | scr (is : List Int)
/-- texts compared sign by sign (the kernel runs this faster than arrays) -/
def strEq (a b : Str) : Bool := decide (a.cps.toList = b.cps.toList)
@[simp] theorem strEq_iff {a b : Str} : strEq a b = true ↔ a = b := by
  unfold strEq
  rw [decide_eq_true_iff]
  refine ⟨fun h => ?_, fun h => by rw [h]⟩
  cases a with | mk x => cases b with | mk y => cases x; cases y; cases h; rfl
theorem strEq_eq (a b : Str) : strEq a b = decide (a = b) := by
  cases e : strEq a b with
  | true => exact (decide_eq_true (strEq_iff.mp e)).symm
  | false => exact (decide_eq_false fun z => Bool.false_ne_true (e.symm.trans (strEq_iff.mpr z))).symm
mutual
def DV.eqb : DV → DV → Bool
  | .non, .non => true
  | .bl a, .bl b => a == b
  | .int a, .int b => decide (a = b)
  | .str a, .str b => strEq a b
  | .tup a, .tup b => DV.eqbs a b
  | .obj a, .obj b => a == b
  | .glo a, .glo b => decide (a = b)
  | .ty a, .ty b => decide (a = b)
  | .exn, .exn => true
  | .scr a, .scr b => decide (a = b)
  | _, _ => false
def DV.eqbs : List DV → List DV → Bool
  | [], [] => true
  | a :: as, b :: bs => DV.eqb a b && DV.eqbs as bs
  | _, _ => false
end
mutual
theorem DV.eqb_iff : ∀ a b : DV, DV.eqb a b = true ↔ a = b
  | .non, b => by cases b <;> simp [DV.eqb]
  | .bl x, b => by cases b <;> simp [DV.eqb]
  | .int x, b => by cases b <;> simp [DV.eqb]
  | .str x, b => by cases b <;> simp [DV.eqb]
  | .tup x, b => by cases b with
    | tup y => simp [DV.eqb, DV.eqbs_iff x y]
    | _ => simp [DV.eqb]
  | .obj x, b => by cases b <;> simp [DV.eqb]
  | .glo x, b => by cases b <;> simp [DV.eqb]
  | .ty x, b => by cases b <;> simp [DV.eqb]
  | .exn, b => by cases b <;> simp [DV.eqb]
  | .scr x, b => by cases b <;> simp [DV.eqb]
theorem DV.eqbs_iff : ∀ a b : List DV, DV.eqbs a b = true ↔ a = b
  | [], b => by cases b <;> simp [DV.eqbs]
  | x :: xs, b => by cases b with
    | nil => simp [DV.eqbs]
    | cons y ys => simp [DV.eqbs, DV.eqb_iff x y, DV.eqbs_iff xs ys]
end
instance : DecidableEq DV := fun a b => decidable_of_iff _ (DV.eqb_iff a b)
/-- a written tuple of flat values -/
def ktupB (K : PySem.W.Frag) (a : Addr) (ds : List DV) : Bool := match K.lookup a with
  | some o => decide (o.cls = .type "tuple") && (match o.data with
    | .seq its _ => decide (its.size ≤ 1000) && (its.toList.length == ds.length) && ((its.toList.zip ds).all fun p => match p.1, p.2 with
      | .none, .non => true
      | .bool a, .bl b => a == b
      | .int a _, .int b => decide (a = b)
      | .str a _, .str b => decide (a = b)
      | _, _ => false)
    | _ => false)
  | none => false
inductive DObj where
  | lst (xs : List DV) | dic (lk : Bool) (kvs : List (Key × DV)) | ins (c : Str) (fs : List (Str × DV))
  deriving DecidableEq
/-- a tree by the digits of a number; its words are told by recursors, so that the kernel runs them at once -/
inductive Tr where | nil | node (o : Option DObj) (l r : Tr)
def Tr.get (t : Tr) : Nat → Option DObj := @Tr.rec (fun _ => Nat → Option DObj) (fun _ => none) (fun o _ _ gl gr n => @Nat.rec (fun _ => Option DObj) o (fun m _ => @Bool.rec (fun _ => Option DObj) (gl (m / 2)) (gr (m / 2)) (Nat.beq (m % 2) 1)) n) t
def Tr.put (x : DObj) (f : Nat) : Tr → Nat → Tr := @Nat.rec (fun _ => Tr → Nat → Tr) (fun t _ => t)
  (fun _ ih t n => @Tr.rec (fun _ => Tr)
    (@Nat.rec (fun _ => Tr) (.node (some x) .nil .nil) (fun m _ => @Bool.rec (fun _ => Tr) (.node none (ih .nil (m / 2)) .nil) (.node none .nil (ih .nil (m / 2))) (Nat.beq (m % 2) 1)) n)
    (fun o l r _ _ => @Nat.rec (fun _ => Tr) (.node (some x) l r) (fun m _ => @Bool.rec (fun _ => Tr) (.node o (ih l (m / 2)) r) (.node o l (ih r (m / 2))) (Nat.beq (m % 2) 1)) n) t) f
theorem Tr.put_same (x : DObj) : ∀ (f : Nat) (t : Tr) (n : Nat), n < f → (Tr.put x f t n).get n = some x
  | 0, _, _, h => absurd h (Nat.not_lt_zero _)
  | f + 1, .nil, 0, _ => rfl
  | f + 1, .node _ _ _, 0, _ => rfl
  | f + 1, .nil, m + 1, h => by
    have ih := Tr.put_same x f .nil (m / 2) (by omega)
    show Tr.get (@Bool.rec (fun _ => Tr) (.node none (Tr.put x f .nil (m / 2)) .nil) (.node none .nil (Tr.put x f .nil (m / 2))) (Nat.beq (m % 2) 1)) (m + 1) = _
    cases e : Nat.beq (m % 2) 1 with
    | false => show @Bool.rec (fun _ => Option DObj) _ _ (Nat.beq (m % 2) 1) = _; rw [e]; exact ih
    | true => show @Bool.rec (fun _ => Option DObj) _ _ (Nat.beq (m % 2) 1) = _; rw [e]; exact ih
  | f + 1, .node o l r, m + 1, h => by
    show Tr.get (@Bool.rec (fun _ => Tr) (.node o (Tr.put x f l (m / 2)) r) (.node o l (Tr.put x f r (m / 2))) (Nat.beq (m % 2) 1)) (m + 1) = _
    cases e : Nat.beq (m % 2) 1 with
    | false => show @Bool.rec (fun _ => Option DObj) _ _ (Nat.beq (m % 2) 1) = _; rw [e]; exact Tr.put_same x f l (m / 2) (by omega)
    | true => show @Bool.rec (fun _ => Option DObj) _ _ (Nat.beq (m % 2) 1) = _; rw [e]; exact Tr.put_same x f r (m / 2) (by omega)
theorem beq_half {m k : Nat} (h : m ≠ k) (e : Nat.beq (m % 2) 1 = Nat.beq (k % 2) 1) : m / 2 ≠ k / 2 := fun z => by
  have a : (m % 2 = 1) ↔ (k % 2 = 1) := by rw [← Nat.beq_eq, ← Nat.beq_eq, e]
  omega
theorem Tr.put_put (x y : DObj) : ∀ (f : Nat) (t : Tr) (n : Nat), (Tr.put x f (Tr.put y f t n) n) = Tr.put x f t n
  | 0, _, _ => rfl
  | f + 1, .nil, 0 => rfl
  | f + 1, .node _ _ _, 0 => rfl
  | f + 1, .nil, m + 1 => by
    have ih := Tr.put_put x y f .nil (m / 2)
    show Tr.put x (f + 1) (@Bool.rec (fun _ => Tr) (.node none (Tr.put y f .nil (m / 2)) .nil) (.node none .nil (Tr.put y f .nil (m / 2))) (Nat.beq (m % 2) 1)) (m + 1) = @Bool.rec (fun _ => Tr) (.node none (Tr.put x f .nil (m / 2)) .nil) (.node none .nil (Tr.put x f .nil (m / 2))) (Nat.beq (m % 2) 1)
    cases e : Nat.beq (m % 2) 1 <;> show @Bool.rec (fun _ => Tr) _ _ (Nat.beq (m % 2) 1) = _ <;> rw [e]
    · exact congrArg (fun z => Tr.node none z .nil) ih
    · exact congrArg (fun z => Tr.node none .nil z) ih
  | f + 1, .node o l r, m + 1 => by
    show Tr.put x (f + 1) (@Bool.rec (fun _ => Tr) (.node o (Tr.put y f l (m / 2)) r) (.node o l (Tr.put y f r (m / 2))) (Nat.beq (m % 2) 1)) (m + 1) = @Bool.rec (fun _ => Tr) (.node o (Tr.put x f l (m / 2)) r) (.node o l (Tr.put x f r (m / 2))) (Nat.beq (m % 2) 1)
    cases e : Nat.beq (m % 2) 1 <;> show @Bool.rec (fun _ => Tr) _ _ (Nat.beq (m % 2) 1) = _ <;> rw [e]
    · exact congrArg (fun z => Tr.node o z r) (Tr.put_put x y f l (m / 2))
    · exact congrArg (fun z => Tr.node o l z) (Tr.put_put x y f r (m / 2))
theorem Tr.put_ne (x : DObj) : ∀ (f : Nat) (t : Tr) (n k : Nat), k ≠ n → (Tr.put x f t n).get k = t.get k
  | 0, _, _, _, _ => rfl
  | f + 1, .nil, 0, 0, h => absurd rfl h
  | f + 1, .nil, 0, k + 1, _ => by
    show @Bool.rec (fun _ => Option DObj) _ _ (Nat.beq (k % 2) 1) = _
    cases Nat.beq (k % 2) 1 <;> rfl
  | f + 1, .node _ _ _, 0, 0, h => absurd rfl h
  | f + 1, .node _ _ _, 0, k + 1, _ => rfl
  | f + 1, .nil, m + 1, 0, _ => by
    show Tr.get (@Bool.rec (fun _ => Tr) _ _ (Nat.beq (m % 2) 1)) 0 = _
    cases Nat.beq (m % 2) 1 <;> rfl
  | f + 1, .node o l r, m + 1, 0, _ => by
    show Tr.get (@Bool.rec (fun _ => Tr) _ _ (Nat.beq (m % 2) 1)) 0 = _
    cases Nat.beq (m % 2) 1 <;> rfl
  | f + 1, .nil, m + 1, k + 1, h => by
    have ih : ∀ n j, j ≠ n → (Tr.put x f .nil n).get j = none := fun n j q => Tr.put_ne x f .nil n j q
    show Tr.get (@Bool.rec (fun _ => Tr) (.node none (Tr.put x f .nil (m / 2)) .nil) (.node none .nil (Tr.put x f .nil (m / 2))) (Nat.beq (m % 2) 1)) (k + 1) = none
    cases e : Nat.beq (m % 2) 1 <;> show @Bool.rec (fun _ => Option DObj) _ _ (Nat.beq (k % 2) 1) = none <;> cases e2 : Nat.beq (k % 2) 1
    · exact ih _ _ (beq_half (fun z => h (by omega)) (by rw [e, e2]))
    · rfl
    · rfl
    · exact ih _ _ (beq_half (fun z => h (by omega)) (by rw [e, e2]))
  | f + 1, .node o l r, m + 1, k + 1, h => by
    show Tr.get (@Bool.rec (fun _ => Tr) (.node o (Tr.put x f l (m / 2)) r) (.node o l (Tr.put x f r (m / 2))) (Nat.beq (m % 2) 1)) (k + 1) = @Bool.rec (fun _ => Option DObj) (l.get (k / 2)) (r.get (k / 2)) (Nat.beq (k % 2) 1)
    cases e : Nat.beq (m % 2) 1 <;> show @Bool.rec (fun _ => Option DObj) _ _ (Nat.beq (k % 2) 1) = _ <;> cases e2 : Nat.beq (k % 2) 1
    · exact Tr.put_ne x f l _ _ (beq_half (fun z => h (by omega)) (by rw [e, e2]))
    · rfl
    · rfl
    · exact Tr.put_ne x f r _ _ (beq_half (fun z => h (by omega)) (by rw [e, e2]))
/-- the numbers below n alone -/
def Tr.cut (t : Tr) : Nat → Tr := @Tr.rec (fun _ => Nat → Tr) (fun _ => .nil) (fun o _ _ cl cr n => @Nat.rec (fun _ => Tr) .nil (fun m _ => .node o (cl ((m + 1) / 2)) (cr (m / 2))) n) t
theorem Tr.cut_get : ∀ (t : Tr) (n k : Nat), k < n → (t.cut n).get k = t.get k
  | .nil, _, _, _ => rfl
  | .node _ _ _, 0, _, h => absurd h (Nat.not_lt_zero _)
  | .node _ _ _, _ + 1, 0, _ => rfl
  | .node o l r, m + 1, k + 1, h => by
    show @Bool.rec (fun _ => Option DObj) ((l.cut ((m + 1) / 2)).get (k / 2)) ((r.cut (m / 2)).get (k / 2)) (Nat.beq (k % 2) 1) = @Bool.rec (fun _ => Option DObj) (l.get (k / 2)) (r.get (k / 2)) (Nat.beq (k % 2) 1)
    cases e : Nat.beq (k % 2) 1 with
    | false => exact Tr.cut_get l _ _ (by have : ¬ k % 2 = 1 := fun z => by rw [Nat.beq_eq.mpr z] at e; cases e
                                          omega)
    | true => exact Tr.cut_get r _ _ (by have : k % 2 = 1 := Nat.beq_eq.mp e
                                         omega)
/-- numbered objects -/
structure DM where
  length : Nat
  t : Tr
namespace DM
def nil : DM := ⟨0, .nil⟩
def get (M : DM) (i : Nat) : Option DObj := @Bool.rec (fun _ => Option DObj) none (M.t.get i) (Nat.ble (i + 1) M.length)
def set (M : DM) (i : Nat) (o : DObj) : DM := ⟨M.length, @Bool.rec (fun _ => Tr) M.t (M.t.put o (i + 1) i) (Nat.ble (i + 1) M.length)⟩
def push (M : DM) (o : DObj) : DM := ⟨M.length + 1, M.t.put o (M.length + 1) M.length⟩
def take (n : Nat) (M : DM) : DM := ⟨n, M.t.cut n⟩
def all (M : DM) (p : DObj → Bool) : Bool := @Nat.rec (fun _ => Bool) true (fun i b => @Bool.rec (fun _ => Bool) false (match M.get i with
  | some o => p o
  | none => true) b) M.length
instance : GetElem? DM Nat DObj (fun M i => (M.get i).isSome) where
  getElem M i h := (M.get i).get h
  getElem? M i := M.get i
theorem get_eq (M : DM) (i : Nat) : M[i]? = if i < M.length then M.t.get i else none := by
  show @Bool.rec (fun _ => Option DObj) none (M.t.get i) (Nat.ble (i + 1) M.length) = _
  cases e : Nat.ble (i + 1) M.length with
  | true => rw [if_pos (Nat.lt_of_succ_le (Nat.le_of_ble_eq_true e))]
  | false => rw [if_neg (fun z : i < M.length => Bool.false_ne_true (e.symm.trans (Nat.ble_eq_true_of_le z)))]
theorem get_lt {M : DM} {i : Nat} {o : DObj} (h : M[i]? = some o) : i < M.length := by
  rw [get_eq] at h
  split at h
  · assumption
  · cases h
@[simp] theorem length_set {M : DM} {i : Nat} {o : DObj} : (M.set i o).length = M.length := rfl
@[simp] theorem length_push {M : DM} {o : DObj} : (M.push o).length = M.length + 1 := rfl
theorem set_same {M : DM} {i : Nat} {o : DObj} (h : i < M.length) : (M.set i o)[i]? = some o := by
  rw [get_eq, length_set, if_pos h]
  show (@Bool.rec (fun _ => Tr) M.t (M.t.put o (i + 1) i) (Nat.ble (i + 1) M.length)).get i = _
  rw [Nat.ble_eq_true_of_le h]
  exact Tr.put_same _ _ _ _ (Nat.lt_succ_self _)
theorem set_ne {M : DM} {i k : Nat} {o : DObj} (h : k ≠ i) : (M.set i o)[k]? = M[k]? := by
  rw [get_eq, get_eq, length_set]
  split
  · show (@Bool.rec (fun _ => Tr) M.t (M.t.put o (i + 1) i) (Nat.ble (i + 1) M.length)).get k = _
    cases Nat.ble (i + 1) M.length
    · rfl
    · exact Tr.put_ne _ _ _ _ _ h
  · rfl
theorem set_set {M : DM} {i : Nat} {o u : DObj} : (M.set i o).set i u = M.set i u := by
  show DM.mk M.length _ = DM.mk M.length _
  congr 1
  show @Bool.rec (fun _ => Tr) (@Bool.rec (fun _ => Tr) M.t (M.t.put o (i + 1) i) (Nat.ble (i + 1) M.length)) ((@Bool.rec (fun _ => Tr) M.t (M.t.put o (i + 1) i) (Nat.ble (i + 1) M.length)).put u (i + 1) i) (Nat.ble (i + 1) M.length) = @Bool.rec (fun _ => Tr) M.t (M.t.put u (i + 1) i) (Nat.ble (i + 1) M.length)
  cases Nat.ble (i + 1) M.length
  · rfl
  · exact Tr.put_put _ _ _ _ _
theorem push_same {M : DM} {o : DObj} : (M.push o)[M.length]? = some o := by
  rw [get_eq, length_push, if_pos (Nat.lt_succ_self _)]
  exact Tr.put_same _ _ _ _ (Nat.lt_succ_self _)
theorem push_lt {M : DM} {o : DObj} {k : Nat} (h : k < M.length) : (M.push o)[k]? = M[k]? := by
  rw [get_eq, get_eq, length_push, if_pos (Nat.lt_succ_of_lt h), if_pos h]
  show (M.t.put o (M.length + 1) M.length).get k = _
  exact Tr.put_ne _ _ _ _ _ (Nat.ne_of_lt h)
theorem take_get {M : DM} {n k : Nat} (h : n ≤ M.length) (hk : k < n) : (M.take n)[k]? = M[k]? := by
  rw [get_eq, get_eq, if_pos (show k < (M.take n).length from hk), if_pos (Nat.lt_of_lt_of_le hk h)]
  exact Tr.cut_get _ _ _ hk
theorem all_at {M : DM} {p : DObj → Bool} (h : M.all p = true) {k : Nat} {o : DObj} (e : M[k]? = some o) : p o = true := by
  have lt := get_lt e
  have go : ∀ n, @Nat.rec (fun _ => Bool) true (fun i b => @Bool.rec (fun _ => Bool) false (match M.get i with
      | some o => p o
      | none => true) b) n = true → k < n → p o = true := by
    intro n
    induction n with
    | zero => exact fun _ z => absurd z (Nat.not_lt_zero _)
    | succ n ih =>
      intro h z
      have h : @Bool.rec (fun _ => Bool) false (match M.get n with
        | some o => p o
        | none => true) (@Nat.rec (fun _ => Bool) true (fun i b => @Bool.rec (fun _ => Bool) false (match M.get i with
          | some o => p o
          | none => true) b) n) = true := h
      cases e2 : @Nat.rec (fun _ => Bool) true (fun i b => @Bool.rec (fun _ => Bool) false (match M.get i with
          | some o => p o
          | none => true) b) n with
      | false => rw [e2] at h; cases h
      | true =>
        rw [e2] at h
        have h : (match M.get n with
          | some o => p o
          | none => true) = true := h
        by_cases q : k = n
        · subst q
          have e : M.get k = some o := e
          rw [e] at h; exact h
        · exact ih e2 (by omega)
  exact go _ h lt
theorem all_of {M : DM} {p : DObj → Bool} (h : ∀ (k : Nat) (o : DObj), M[k]? = some o → p o = true) : M.all p = true := by
  have go : ∀ n, n ≤ M.length → @Nat.rec (fun _ => Bool) true (fun i b => @Bool.rec (fun _ => Bool) false (match M.get i with
      | some o => p o
      | none => true) b) n = true := by
    intro n
    induction n with
    | zero => exact fun _ => rfl
    | succ n ih =>
      intro le
      show @Bool.rec (fun _ => Bool) false (match M.get n with
        | some o => p o
        | none => true) (@Nat.rec (fun _ => Bool) true (fun i b => @Bool.rec (fun _ => Bool) false (match M.get i with
          | some o => p o
          | none => true) b) n) = true
      rw [ih (by omega)]
      show (match M.get n with
        | some o => p o
        | none => true) = true
      cases e : M.get n with
      | none => rfl
      | some o => exact h n o e
  exact go _ (Nat.le_refl _)
/-- all objects of a list -/
def ofL (l : List DObj) : DM := l.foldl push nil
end DM
/-- an error on its way: its class, its own fields -/
structure Exc where
  cls : Str
  fs : List (Str × DV)
inductive Res (α : Type) where
  | ok (a : α) (M : DM) | exc (e : Exc) (M : DM) | bad
def Res.bind {α β : Type} (r : Res α) (f : α → DM → Res β) : Res β := match r with
  | .ok a M => f a M
  | .exc e M => .exc e M
  | .bad => .bad
/-- a value, or a new list or dict that nobody holds yet -/
inductive RV where
  | v (d : DV) | lst (ds : List DV) | dic (kvs : List (Key × DV))
abbrev DS := List (Option DV)
/-- the tables of code objects that the text's lambdas need -/
class Tbl where
  t : PySem.W.Frag → List (Addr × Str)
/-- nothing that is told lies there -/
def Free (H : Hp) (a : Addr) : Prop := H a = none ∨ ∃ ps, H a = some (.tbl ps)
/-- neither a table, a list nor a dict -/
def Stays (o : HO) : Prop := (∀ ps, o ≠ .tbl ps) ∧ (∀ xs, o ≠ .lst xs) ∧ ∀ es, o ≠ .dK es
/-- what may bear a number -/
def Num (u : HO) : Prop := (∃ xs, u = .lst xs) ∨ (∃ es, u = .dK es) ∨ (∃ o es, u = .frz o (.dK es)) ∨ ∃ c dx es, u = .ins c dx es
/-- what is around: where the error stands that is handled, and what stays true all the while -/
class Lnk where
  ea : Addr
  sc : Option (Addr × List Int)
  inv : PySem.W.Frag → List Addr → Hp → Prop
  go : ∀ {K : PySem.W.Frag} {ι ι' : List Addr} {H H' : Hp}, (∀ a ∈ ι, ∃ u, H a = some u ∧ Num u) → (∃ new, ι' = ι ++ new) →
    (∀ b, b ∉ ι → ∀ o, H b = some o → Stays o → H' b = some o) → inv K ι H → inv K ι' H'
  scq : ∀ {K : PySem.W.Frag} {ι : List Addr} {H : Hp} {a : Addr} {is : List Int}, inv K ι H → sc = some (a, is) → SqL K H a (is.map V.int)
variable [Tbl] [Lnk]
/-! ### how they lie in the abstract heap -/
section
variable (K : PySem.W.Frag) (ι : List Addr) (H : Hp)
mutual
inductive VR : DV → V → Prop
  | non : VR .non .non
  | bl (b : Bool) : VR (.bl b) (.bl b)
  | int (i : Int) : VR (.int i) (.int i)
  | str (x : Str) : VR (.str x) (.str x)
  | tup {a : Addr} {xs : List V} {ds : List DV} : SqT K H a xs → VRs ds xs → VR (.tup ds) (.ref a)
  | obj {n : Nat} {a : Addr} : ι[n]? = some a → VR (.obj n) (.ref a)
  | glo (x : Str) : VR (.glo x) (.ref (He.ga K x))
  | ty (n : String) : VR (.ty n) (.ty n)
  | exn : VR .exn (.ref Lnk.ea)
  | scr {a : Addr} {is : List Int} : Lnk.sc = some (a, is) → VR (.scr is) (.ref a)
inductive VRs : List DV → List V → Prop
  | nil : VRs [] []
  | cons {d : DV} {v : V} {ds : List DV} {vs : List V} : VR d v → VRs ds vs → VRs (d :: ds) (v :: vs)
end
/-- pairs of names and values -/
abbrev FR {κ : Type} : List (κ × DV) → List (κ × V) → Prop := Paired fun p q => p.1 = q.1 ∧ VR K ι H p.2 q.2
def OR : DObj → HO → Prop
  | .lst ds, u => ∃ xs, u = .lst xs ∧ VRs K ι H ds xs
  | .dic false kvs, u => ∃ es, u = .dK es ∧ FR K ι H kvs es
  | .dic true kvs, u => ∃ o es, u = .frz o (.dK es) ∧ FR K ι H kvs es
  | .ins c fs, u => ∃ dx es, u = .ins (He.ga K c) dx es ∧ FR K ι H fs es
structure Rep (M : DM) : Prop where
  len : ι.length = M.length
  nd : ι.Nodup
  fl : ∀ n, n < M.length → ∃ o, M[n]? = some o
  at_ : ∀ (n : Nat) (a : Addr) (o : DObj), ι[n]? = some a → M[n]? = some o → ∃ u, H a = some u ∧ OR K ι H o u
  tb : LamX.Tabs (Tbl.t K) H
  x : Lnk.inv K ι H
inductive RVR : RV → V → Prop
  | v {d : DV} {x : V} : VR K ι H d x → RVR (.v d) x
  | lst {ds : List DV} {a : Addr} {xs : List V} : a ∉ ι → H a = some (.lst xs) → VRs K ι H ds xs → RVR (.lst ds) (.ref a)
  | dic {kvs : List (Key × DV)} {a : Addr} {es : List (Key × V)} : a ∉ ι → H a = some (.dK es) → FR K ι H kvs es → RVR (.dic kvs) (.ref a)
/-- the slots -/
abbrev SR : DS → L2.St → Prop := Paired fun d v => ∀ x, d = some x → ∃ y, v = some y ∧ VR K ι H x y
end
theorem free_no {H : Hp} {a : Addr} {o : HO} (f : Free H a) (g : H a = some o) (nt : ∀ ps, o ≠ .tbl ps := by intro _ z; cases z) : False := by
  rcases f with f | ⟨ps, f⟩
  · rw [f] at g; cases g
  · rw [f] at g; exact nt ps (Option.some.inj g).symm
theorem free_upd {H : Hp} {a b : Addr} {u : HO} (nt : ∀ ps, u ≠ .tbl ps) (f : Free (upd H a u) b) : Free H b := by
  by_cases e : b = a
  · rw [e] at f; exact (free_no f upd_same nt).elim
  · unfold Free at f; rw [upd_ne e] at f; exact f
theorem free_same {H H' : Hp} (s : Same H H') {b : Addr} (f : Free H' b) : Free H b := by
  cases e : H b with
  | none => exact .inl e
  | some o =>
    by_cases q : ∃ ps, o = .tbl ps
    · obtain ⟨ps, rfl⟩ := q; exact .inr ⟨ps, e⟩
    · exact (free_no f (s b o e) fun ps z => q ⟨ps, z⟩).elim
/-- a new thing was not there ahead -/
def Fresh (H : Hp) : RV → V → Prop
  | .v _, _ => True
  | _, x => ∀ a, x = .ref a → Free H a
/-- what a step leaves -/
structure Aft (ι : List Addr) (H : Hp) (ι' : List Addr) (H' : Hp) : Prop where
  ext : ∃ new, ι' = ι ++ new ∧ ∀ a ∈ new, Free H a
  fr0 : ∀ b, b ∉ ι → ∀ o, H b = some o → (∀ ps, o ≠ .tbl ps) → H' b = some o
  th : ∀ b, Free H' b → Free H b
  fz : ∀ b o u, H b = some (.frz o u) → H' b = some (.frz o u)
theorem Aft.fr {ι ι' : List Addr} {H H' : Hp} (A : Aft ι H ι' H') (b : Addr) (hb : b ∉ ι) (o : HO) (e : H b = some o) (nt : ∀ ps, o ≠ .tbl ps := by intro _ z; cases z) : H' b = some o := A.fr0 b hb o e nt
theorem Aft.refl (ι : List Addr) (H : Hp) : Aft ι H ι H := ⟨⟨[], by simp, by simp⟩, fun _ _ _ h _ => h, fun _ h => h, fun _ _ _ h => h⟩
theorem Aft.same {ι : List Addr} {H H' : Hp} (s : Same H H') : Aft ι H ι H' := ⟨⟨[], by simp, by simp⟩, fun _ _ _ h _ => s _ _ h, fun _ h => free_same s h, fun _ _ _ h => s _ _ h⟩
theorem tabs_upd {T : List (Addr × Str)} {H : Hp} {a : Addr} {u u0 : HO} (t : LamX.Tabs T H) (g : H a = some u0) (n1 : ∀ ps, u0 ≠ .tbl ps) (n2 : ∀ f, u0 ≠ .ext f) : LamX.Tabs T (upd H a u) := fun p hp => by
  obtain ⟨ps, h1, h2, h3⟩ := t p hp
  have ne : p.1 ≠ a := fun e => by rw [e, g] at h1; exact n1 _ (Option.some.inj h1)
  refine ⟨ps, by rw [upd_ne ne]; exact h1, h2, fun pos cv hc => ?_⟩
  obtain ⟨c, e1, e2⟩ := h3 pos cv hc
  refine ⟨c, e1, ?_⟩
  have nc : c ≠ a := fun e => by rw [e, g] at e2; exact n2 _ (Option.some.inj e2)
  rw [upd_ne nc]; exact e2
section
variable {K : PySem.W.Frag} {ι ι' ι1 ι2 : List Addr} {H H' H1 H2 : Hp} {M M' M1 M2 : DM}
theorem Aft.at_ (A : Aft ι H ι' H') {n : Nat} {a : Addr} (h : ι[n]? = some a) : ι'[n]? = some a := by
  obtain ⟨new, rfl, _⟩ := A.ext
  rw [List.getElem?_append_left (List.getElem?_eq_some_iff.mp h).1]; exact h
theorem Aft.sub (A : Aft ι H ι' H') {a : Addr} (h : a ∈ ι) : a ∈ ι' := by
  obtain ⟨new, rfl, _⟩ := A.ext
  exact List.mem_append_left _ h
theorem Rep.of_mem (R : Rep K ι H M) {a : Addr} (h : a ∈ ι) : ∃ (n : Nat) (o : DObj) (u : HO), ι[n]? = some a ∧ M[n]? = some o ∧ H a = some u ∧ OR K ι H o u := by
  obtain ⟨n, hn⟩ := List.mem_iff_getElem?.mp h
  have lt : n < M.length := by rw [← R.len]; exact (List.getElem?_eq_some_iff.mp hn).1
  obtain ⟨o, e⟩ := R.fl n lt
  obtain ⟨u, h1, h2⟩ := R.at_ n a o hn e
  exact ⟨n, o, u, hn, e, h1, h2⟩
theorem Rep.there (R : Rep K ι H M) {a : Addr} (h : a ∈ ι) : H a ≠ none := by
  obtain ⟨_, _, u, _, _, e, _⟩ := R.of_mem h
  rw [e]; intro z; cases z
theorem Rep.no_tup (R : Rep K ι H M) {a : Addr} {xs : List V} (h : H a = some (.tup xs) ∨ ∃ o, H a = some (.frz o (.tup xs))) : a ∉ ι := fun hm => by
  obtain ⟨_, o, u, _, _, e, q⟩ := R.of_mem hm
  have : u ≠ .tup xs ∧ ∀ o, u ≠ .frz o (.tup xs) := by
    cases o with
    | lst ds => obtain ⟨_, rfl, _⟩ := q; exact ⟨(fun z => by cases z), (fun _ z => by cases z)⟩
    | dic lk kvs => cases lk with
      | false => obtain ⟨_, rfl, _⟩ := q; exact ⟨(fun z => by cases z), (fun _ z => by cases z)⟩
      | true => obtain ⟨_, _, rfl, _⟩ := q; exact ⟨(fun z => by cases z), (fun _ z => by cases z)⟩
    | ins c fs => obtain ⟨_, _, rfl, _⟩ := q; exact ⟨(fun z => by cases z), (fun _ z => by cases z)⟩
  rcases h with h | ⟨o, h⟩
  · rw [e] at h; exact this.1 (Option.some.inj h)
  · rw [e] at h; exact this.2 _ (Option.some.inj h)
theorem sqT_aft (R : Rep K ι H M) (A : Aft ι H ι' H') {a : Addr} {xs : List V} (h : SqT K H a xs) : SqT K H' a xs := by
  rcases h with (h | ⟨o, h⟩) | h
  · exact .inl (.inl (A.fr _ (R.no_tup (.inl h)) _ h))
  · exact .inl (.inr ⟨o, A.fr _ (R.no_tup (.inr ⟨o, h⟩)) _ h⟩)
  · exact .inr h
mutual
theorem VR.go (hi : ∀ (n : Nat) (a : Addr), ι[n]? = some a → ι'[n]? = some a) (ht : ∀ a xs, SqT K H a xs → SqT K H' a xs) : ∀ {d : DV} {v : V}, VR K ι H d v → VR K ι' H' d v
  | _, _, .non => .non
  | _, _, .bl b => .bl b
  | _, _, .int i => .int i
  | _, _, .str x => .str x
  | _, _, .tup h t => .tup (ht _ _ h) (VRs.go hi ht t)
  | _, _, .obj h => .obj (hi _ _ h)
  | _, _, .glo x => .glo x
  | _, _, .ty n => .ty n
  | _, _, .exn => .exn
  | _, _, .scr h => .scr h
theorem VRs.go (hi : ∀ (n : Nat) (a : Addr), ι[n]? = some a → ι'[n]? = some a) (ht : ∀ a xs, SqT K H a xs → SqT K H' a xs) : ∀ {ds : List DV} {vs : List V}, VRs K ι H ds vs → VRs K ι' H' ds vs
  | _, _, .nil => .nil
  | _, _, .cons h t => .cons (VR.go hi ht h) (VRs.go hi ht t)
end
theorem VR.aft (R : Rep K ι H M) (A : Aft ι H ι' H') {d : DV} {v : V} (h : VR K ι H d v) : VR K ι' H' d v := h.go (fun _ _ e => A.at_ e) fun _ _ e => sqT_aft R A e
theorem VRs.aft (R : Rep K ι H M) (A : Aft ι H ι' H') {d : List DV} {v : List V} (h : VRs K ι H d v) : VRs K ι' H' d v := h.go (fun _ _ e => A.at_ e) fun _ _ e => sqT_aft R A e
theorem FR.aft {κ : Type} (R : Rep K ι H M) (A : Aft ι H ι' H') {d : List (κ × DV)} {v : List (κ × V)} (h : FR K ι H d v) : FR K ι' H' d v := by
  induction h with
  | nil => exact .nil
  | cons h _ t => exact .cons ⟨h.1, h.2.aft R A⟩ t
theorem SR.aft (R : Rep K ι H M) (A : Aft ι H ι' H') {δ : DS} {σ : L2.St} (h : SR K ι H δ σ) : SR K ι' H' δ σ := by
  induction h with
  | nil => exact .nil
  | cons h _ t => exact .cons (fun x e => let ⟨y, e1, r⟩ := h x e; ⟨y, e1, r.aft R A⟩) t
theorem OR.aft (R : Rep K ι H M) (A : Aft ι H ι' H') {o : DObj} {u : HO} (h : OR K ι H o u) : OR K ι' H' o u := by
  cases o with
  | lst ds => obtain ⟨xs, e, r⟩ := h; exact ⟨xs, e, r.aft R A⟩
  | dic lk kvs => cases lk with
    | false => obtain ⟨es, e, r⟩ := h; exact ⟨es, e, FR.aft R A r⟩
    | true => obtain ⟨o, es, e, r⟩ := h; exact ⟨o, es, e, FR.aft R A r⟩
  | ins c fs => obtain ⟨dx, es, e, r⟩ := h; exact ⟨dx, es, e, FR.aft R A r⟩
theorem OR.num {o : DObj} {u : HO} (h : OR K ι H o u) : Num u := by
  cases o with
  | lst ds => obtain ⟨xs, e, _⟩ := h; exact .inl ⟨xs, e⟩
  | dic lk kvs => cases lk with
    | false => obtain ⟨es, e, _⟩ := h; exact .inr (.inl ⟨es, e⟩)
    | true => obtain ⟨o, es, e, _⟩ := h; exact .inr (.inr (.inl ⟨o, es, e⟩))
  | ins c fs => obtain ⟨dx, es, e, _⟩ := h; exact .inr (.inr (.inr ⟨_, dx, es, e⟩))
theorem Rep.num (R : Rep K ι H M) {a : Addr} (h : a ∈ ι) : ∃ u, H a = some u ∧ Num u := by
  obtain ⟨_, o, u, _, _, g, q⟩ := R.of_mem h
  exact ⟨u, g, q.num⟩
theorem Rep.xgo (R : Rep K ι H M) (e : ∃ new, ι' = ι ++ new) (f : ∀ b, b ∉ ι → ∀ o, H b = some o → Stays o → H' b = some o) : Lnk.inv K ι' H' := Lnk.go (fun _ h => R.num h) e f R.x
theorem Rep.xaft (R : Rep K ι H M) (A : Aft ι H ι' H') : Lnk.inv K ι' H' := R.xgo (let ⟨n, h, _⟩ := A.ext; ⟨n, h⟩) fun b hb o e z => A.fr0 b hb o e z.1
theorem Rep.same (R : Rep K ι H M) (s : Same H H') : Rep K ι H' M := ⟨R.len, R.nd, R.fl, fun n a o h1 h2 => by
  obtain ⟨u, e, q⟩ := R.at_ n a o h1 h2
  exact ⟨u, s _ _ e, q.aft R (Aft.same s)⟩, R.tb.ext s, R.xaft (Aft.same s)⟩
theorem RVR.aft (R : Rep K ι H M) (A : Aft ι H ι' H') {d : RV} {v : V} (h : RVR K ι H d v) : RVR K ι' H' d v := by
  obtain ⟨new, rfl, hn⟩ := id A.ext
  have nin : ∀ {a : Addr} {u : HO}, a ∉ ι → H a = some u → (∀ ps, u ≠ .tbl ps) → a ∉ ι ++ new := fun {a u} n e nt z => by
    rcases List.mem_append.mp z with z | z
    · exact n z
    · exact free_no (hn a z) e nt
  cases h with
  | v h => exact .v (h.aft R A)
  | lst n e r => exact .lst (nin n e fun _ z => by cases z) (A.fr _ n _ e) (r.aft R A)
  | dic n e r => exact .dic (nin n e fun _ z => by cases z) (A.fr _ n _ e) (FR.aft R A r)
theorem Aft.gone (A : Aft ι H ι1 H1) {a : Addr} (h : Free H1 a) : Free H a := A.th a h
theorem Aft.trans (A : Aft ι H ι1 H1) (R1 : Rep K ι1 H1 M1) (B : Aft ι1 H1 ι2 H2) : Aft ι H ι2 H2 := by
  obtain ⟨n1, rfl, h1⟩ := id A.ext
  obtain ⟨n2, rfl, h2⟩ := id B.ext
  refine ⟨⟨n1 ++ n2, by rw [List.append_assoc], fun a ha => ?_⟩, fun b hb o e nt => ?_, fun b h => A.th b (B.th b h), fun b o u e => B.fz b o u (A.fz b o u e)⟩
  · rcases List.mem_append.mp ha with z | z
    · exact h1 a z
    · exact A.gone (h2 a z)
  · refine B.fr0 b (fun z => ?_) o (A.fr0 b hb o e nt) nt
    rcases List.mem_append.mp z with z | z
    · exact hb z
    · exact free_no (h1 b z) e nt
theorem Fresh.back (A : Aft ι H ι1 H1) (R1 : Rep K ι1 H1 M1) {r : RV} {v : V} (h : Fresh H1 r v) : Fresh H r v := by
  cases r with
  | v d => trivial
  | lst ds => exact fun a e => A.gone (h a e)
  | dic ds => exact fun a e => A.gone (h a e)
end
/-! ### readings -/
def ExR (K : PySem.W.Frag) (ι : List Addr) (H : Hp) (e : Exc) (cls : Value) (d : Option Addr) : Prop := cls = .ref (He.ga K e.cls) ∧ ∃ dd es, d = some dd ∧ H dd = some (.xd es) ∧ FR K ι H e.fs es
/-- what is wanted behind a step that starts at (ι, H); rel: how the step's outcome stands for what Python has -/
abbrev RelT (α β : Type) := Hp → List Addr → Hp → α → β → Prop
def Post {α β : Type} (K : PySem.W.Frag) (W : WX) (σ : L2.St) (ι : List Addr) (H : Hp) (rel : RelT α β) (r : Res α) (Q : β → Hp → Prop) : Prop := match r with
  | .ok a M' => ∀ ι' b H', Aft ι H ι' H' → Rep K ι' H' M' → rel H ι' H' a b → Q b H'
  | .exc e M' => ∀ ι' cls d H', Aft ι H ι' H' → Rep K ι' H' M' → ExR K ι' H' e cls d → W cls d σ H'
  | .bad => False
def relE (K : PySem.W.Frag) : RelT RV V := fun H ι' H' r v => RVR K ι' H' r v ∧ Fresh H r v
def relV (K : PySem.W.Frag) : RelT DV V := fun _ ι' H' d v => VR K ι' H' d v
def relA (K : PySem.W.Frag) : RelT (List DV) (List V) := fun _ ι' H' ds vs => VRs K ι' H' ds vs
inductive RVRs (K : PySem.W.Frag) (ι : List Addr) (H : Hp) : List RV → List V → Prop
  | nil : RVRs K ι H [] []
  | cons {d : RV} {v : V} {ds : List RV} {vs : List V} : RVR K ι H d v → RVRs K ι H ds vs → RVRs K ι H (d :: ds) (v :: vs)
def relR (K : PySem.W.Frag) : RelT (List RV) (List V) := fun _ ι' H' ds vs => RVRs K ι' H' ds vs
def relB : RelT Bool Bool := fun _ _ _ a b => a = b
/-- the relation told at a later start holds at the start -/
structure Early {α β : Type} (rel : RelT α β) : Prop where
  go : ∀ {K : PySem.W.Frag} {ι ι1 : List Addr} {H H1 : Hp} {M1 : DM} {ι' : List Addr} {H' : Hp} {a : α} {b : β}, Aft ι H ι1 H1 → Rep K ι1 H1 M1 → rel H1 ι' H' a b → rel H ι' H' a b
theorem early_E {K : PySem.W.Frag} : Early (relE K) := ⟨fun A R h => ⟨h.1, h.2.back A R⟩⟩
theorem early_V {K : PySem.W.Frag} : Early (relV K) := ⟨fun _ _ h => h⟩
theorem early_A {K : PySem.W.Frag} : Early (relA K) := ⟨fun _ _ h => h⟩
theorem early_R {K : PySem.W.Frag} : Early (relR K) := ⟨fun _ _ h => h⟩
theorem early_B : Early relB := ⟨fun _ _ h => h⟩
abbrev DE := DS → DM → Res RV
/-- the reading of an executable step -/
def tG {α β : Type} (K : PySem.W.Frag) (W : WX) (rel : RelT α β) (m : DS → DM → Res α) (σ : L2.St) (H : Hp) (Q : β → Hp → Prop) : Prop := ∃ ι δ M, SR K ι H δ σ ∧ Rep K ι H M ∧ Post K W σ ι H rel (m δ M) Q
abbrev tI (K : PySem.W.Frag) (W : WX) (m : DE) : TE := tG K W (relE K) m
abbrev tIv (K : PySem.W.Frag) (W : WX) (m : DS → DM → Res DV) : TE := tG K W (relV K) m
abbrev tIa (K : PySem.W.Frag) (W : WX) (m : DS → DM → Res (List DV)) : TA := tG K W (relA K) m
abbrev tIr (K : PySem.W.Frag) (W : WX) (m : DS → DM → Res (List RV)) : TA := tG K W (relR K) m
abbrev tIt (K : PySem.W.Frag) (W : WX) (m : DS → DM → Res Bool) : TT := tG K W relB m
section
variable {α β γ ε : Type} {K : PySem.W.Frag} {W : WX} {σ : L2.St} {ι ι1 : List Addr} {H H1 : Hp} {M M1 : DM} {rel : RelT α β} {rel' : RelT γ ε}
theorem Post.later {Q : β → Hp → Prop} (E : Early rel) (A : Aft ι H ι1 H1) (R1 : Rep K ι1 H1 M1) {r : Res α} (h : Post K W σ ι H rel r Q) : Post K W σ ι1 H1 rel r Q := by
  cases r with
  | ok r M' => exact fun ι' v H' B R' r' => h ι' v H' (A.trans R1 B) R' (E.go A R1 r')
  | exc e M' => exact fun ι' c d H' B R' x => h ι' c d H' (A.trans R1 B) R' x
  | bad => exact h
theorem Post.imp {Q Q' : β → Hp → Prop} {r : Res α} (h : Post K W σ ι H rel r Q) (k : ∀ b H', Q b H' → Q' b H') : Post K W σ ι H rel r Q' := by
  cases r with
  | ok r M' => exact fun ι' v H' B R' r' => k _ _ (h ι' v H' B R' r')
  | exc e M' => exact h
  | bad => exact h
/-- one step, then the rest -/
theorem Post.bind {δ : DS} {r : Res α} {f : α → DM → Res γ} {Q : ε → Hp → Prop} (E : Early rel') (hs : SR K ι H δ σ) (R : Rep K ι H M) (h : Post K W σ ι H rel' (r.bind f) Q) :
    Post K W σ ι H rel r (fun v H1 => ∃ x ι1 M1, Aft ι H ι1 H1 ∧ SR K ι1 H1 δ σ ∧ Rep K ι1 H1 M1 ∧ rel H ι1 H1 x v ∧ Post K W σ ι1 H1 rel' (f x M1) Q) := by
  cases r with
  | ok r M' => exact fun ι' v H' A R' r' => ⟨r, ι', M', A, hs.aft R A, R', r', Post.later E A R' (show Post K W σ ι H rel' (f r M') Q from h)⟩
  | exc e M' => exact h
  | bad => exact h
/-- an outcome at once -/
theorem Post.ret {Q : β → Hp → Prop} {a : α} {b : β} (h : Post K W σ ι H rel (.ok a M) Q) (R : Rep K ι H M) (r : rel H ι H a b) : Q b H := h ι b H (Aft.refl ι H) R r
/-- an outcome behind a new thing -/
theorem Post.same {Q : β → Hp → Prop} {a : α} {b : β} {H' : Hp} (h : Post K W σ ι H rel (.ok a M) Q) (R : Rep K ι H M) (s : Same H H') (r : rel H ι H' a b) : Q b H' := h ι b H' (Aft.same s) (R.same s) r
end

end
end Lk
end

section
set_option Elab.async false
set_option linter.all false
set_option maxRecDepth 100000
set_option maxHeartbeats 4000000
namespace Lk
open PySem PySem.Spec PyProof.Rows L2
noncomputable section
def topS (i : Nat) : Stmt := PySem.Challenge.pw_controlplane_k08_known_kinds.main.body.getD i (.Pass ⟨0, 0, 0, 0⟩)
abbrev s__wall : Stmt := topS 0
abbrev N__wall : List Str := ["k"]
abbrev ps__wall : List Str := ["k"]
theorem sc__wall : FnScope N__wall ps__wall (defScope s__wall) := ⟨rfl, rfl, rfl, by decide +kernel, rfl, by decide +kernel, by decide +kernel⟩
abbrev s_is_integer : Stmt := topS 14
abbrev N_is_integer : List Str := ["value"]
abbrev ps_is_integer : List Str := ["value"]
theorem sc_is_integer : FnScope N_is_integer ps_is_integer (defScope s_is_integer) := ⟨rfl, rfl, rfl, by decide +kernel, rfl, by decide +kernel, by decide +kernel⟩
abbrev s_is_user_name : Stmt := topS 15
abbrev N_is_user_name : List Str := ["value", "sign"]
abbrev ps_is_user_name : List Str := ["value"]
theorem sc_is_user_name : FnScope N_is_user_name ps_is_user_name (defScope s_is_user_name) := ⟨rfl, rfl, rfl, by decide +kernel, rfl, by decide +kernel, by decide +kernel⟩
abbrev s_number_of : Stmt := topS 16
abbrev N_number_of : List Str := ["text", "highest", "sign"]
abbrev ps_number_of : List Str := ["text", "highest"]
theorem sc_number_of : FnScope N_number_of ps_number_of (defScope s_number_of) := ⟨rfl, rfl, rfl, by decide +kernel, rfl, by decide +kernel, by decide +kernel⟩
abbrev s_part_of : Stmt := topS 17
abbrev N_part_of : List Str := ["letter", "text"]
abbrev ps_part_of : List Str := ["letter", "text"]
theorem sc_part_of : FnScope N_part_of ps_part_of (defScope s_part_of) := ⟨rfl, rfl, rfl, by decide +kernel, rfl, by decide +kernel, by decide +kernel⟩
abbrev s_apart : Stmt := topS 18
abbrev N_apart : List Str := ["value", "maker", "end", "what"]
abbrev ps_apart : List Str := ["value"]
theorem sc_apart : FnScope N_apart ps_apart (defScope s_apart) := ⟨rfl, rfl, rfl, by decide +kernel, rfl, by decide +kernel, by decide +kernel⟩
abbrev s_is_maker : Stmt := topS 19
abbrev N_is_maker : List Str := ["value", "letter", "told"]
abbrev ps_is_maker : List Str := ["value", "letter"]
theorem sc_is_maker : FnScope N_is_maker ps_is_maker (defScope s_is_maker) := ⟨rfl, rfl, rfl, by decide +kernel, rfl, by decide +kernel, by decide +kernel⟩
abbrev s_is_name : Stmt := topS 20
abbrev N_is_name : List Str := ["value"]
abbrev ps_is_name : List Str := ["value"]
theorem sc_is_name : FnScope N_is_name ps_is_name (defScope s_is_name) := ⟨rfl, rfl, rfl, by decide +kernel, rfl, by decide +kernel, by decide +kernel⟩
abbrev s_is_label_value : Stmt := topS 24
abbrev N_is_label_value : List Str := ["value", "sign"]
abbrev ps_is_label_value : List Str := ["value"]
theorem sc_is_label_value : FnScope N_is_label_value ps_is_label_value (defScope s_is_label_value) := ⟨rfl, rfl, rfl, by decide +kernel, rfl, by decide +kernel, by decide +kernel⟩
abbrev s_requirement : Stmt := topS 25
abbrev N_requirement : List Str := ["text", "found", "name", "value"]
abbrev ps_requirement : List Str := ["text"]
theorem sc_requirement : FnScope N_requirement ps_requirement (defScope s_requirement) := ⟨rfl, rfl, rfl, by decide +kernel, rfl, by decide +kernel, by decide +kernel⟩
abbrev s_rows_of : Stmt := topS 26
abbrev N_rows_of : List Str := ["selector", "parts", "rows", "row", "part"]
abbrev ps_rows_of : List Str := ["selector"]
theorem sc_rows_of : FnScope N_rows_of ps_rows_of (defScope s_rows_of) := ⟨rfl, rfl, rfl, by decide +kernel, rfl, by decide +kernel, by decide +kernel⟩
abbrev s_is_selector : Stmt := topS 27
abbrev N_is_selector : List Str := ["value"]
abbrev ps_is_selector : List Str := ["value"]
theorem sc_is_selector : FnScope N_is_selector ps_is_selector (defScope s_is_selector) := ⟨rfl, rfl, rfl, by decide +kernel, rfl, by decide +kernel, by decide +kernel⟩
abbrev s_is_bounded : Stmt := topS 37
abbrev N_is_bounded : List Str := ["value"]
abbrev ps_is_bounded : List Str := ["value"]
theorem sc_is_bounded : FnScope N_is_bounded ps_is_bounded (defScope s_is_bounded) := ⟨rfl, rfl, rfl, by decide +kernel, rfl, by decide +kernel, by decide +kernel⟩
abbrev s_is_sort : Stmt := topS 38
abbrev N_is_sort : List Str := ["value", "word"]
abbrev ps_is_sort : List Str := ["value"]
theorem sc_is_sort : FnScope N_is_sort ps_is_sort (defScope s_is_sort) := ⟨rfl, rfl, rfl, by decide +kernel, rfl, by decide +kernel, by decide +kernel⟩
abbrev s_is_text : Stmt := topS 39
abbrev N_is_text : List Str := ["value", "sign"]
abbrev ps_is_text : List Str := ["value"]
theorem sc_is_text : FnScope N_is_text ps_is_text (defScope s_is_text) := ⟨rfl, rfl, rfl, by decide +kernel, rfl, by decide +kernel, by decide +kernel⟩
abbrev s_fits : Stmt := topS 40
abbrev N_fits : List Str := ["sort", "value", "word"]
abbrev ps_fits : List Str := ["sort", "value"]
theorem sc_fits : FnScope N_fits ps_fits (defScope s_fits) := ⟨rfl, rfl, rfl, by decide +kernel, rfl, by decide +kernel, by decide +kernel⟩
abbrev s_is_field : Stmt := topS 41
abbrev N_is_field : List Str := ["value", "in_status"]
abbrev ps_is_field : List Str := ["value", "in_status"]
theorem sc_is_field : FnScope N_is_field ps_is_field (defScope s_is_field) := ⟨rfl, rfl, rfl, by decide +kernel, rfl, by decide +kernel, by decide +kernel⟩
abbrev s_check_rows : Stmt := topS 42
abbrev N_check_rows : List Str := ["rows", "in_status", "at", "row", "one"]
abbrev ps_check_rows : List Str := ["rows", "in_status"]
theorem sc_check_rows : FnScope N_check_rows ps_check_rows (defScope s_check_rows) := ⟨rfl, rfl, rfl, by decide +kernel, rfl, by decide +kernel, by decide +kernel⟩
abbrev s_by_name : Stmt := topS 43
abbrev N_by_name : List Str := ["name"]
abbrev ps_by_name : List Str := ["name"]
theorem sc_by_name : FnScope N_by_name ps_by_name (defScope s_by_name) := ⟨rfl, rfl, rfl, by decide +kernel, rfl, by decide +kernel, by decide +kernel⟩
abbrev s_check_given : Stmt := topS 44
abbrev N_check_given : List Str := ["rows", "table", "names", "name"]
abbrev ps_check_given : List Str := ["rows", "table", "names"]
theorem sc_check_given : FnScope N_check_given ps_check_given (defScope s_check_given) := ⟨rfl, rfl, rfl, by decide +kernel, rfl, by decide +kernel, by decide +kernel⟩
abbrev s_some_value : Stmt := topS 47
abbrev N_some_value : List Str := ["sort"]
abbrev ps_some_value : List Str := ["sort"]
theorem sc_some_value : FnScope N_some_value ps_some_value (defScope s_some_value) := ⟨rfl, rfl, rfl, by decide +kernel, rfl, by decide +kernel, by decide +kernel⟩
abbrev s_is_pairs : Stmt := topS 49
abbrev N_is_pairs : List Str := ["pairs", "words", "pair"]
abbrev ps_is_pairs : List Str := ["pairs", "words"]
theorem sc_is_pairs : FnScope N_is_pairs ps_is_pairs (defScope s_is_pairs) := ⟨rfl, rfl, rfl, by decide +kernel, rfl, by decide +kernel, by decide +kernel⟩
abbrev s_is_rule : Stmt := topS 50
abbrev N_is_rule : List Str := ["rule", "ways", "way", "is_right", "word"]
abbrev ps_is_rule : List Str := ["rule", "ways"]
theorem sc_is_rule : FnScope N_is_rule ps_is_rule (defScope s_is_rule) := ⟨rfl, rfl, rfl, by decide +kernel, rfl, by decide +kernel, by decide +kernel⟩
abbrev s_way_by : Stmt := topS 51
abbrev N_way_by : List Str := ["rule", "ways", "way"]
abbrev ps_way_by : List Str := ["rule", "ways"]
theorem sc_way_by : FnScope N_way_by ps_way_by (defScope s_way_by) := ⟨rfl, rfl, rfl, by decide +kernel, rfl, by decide +kernel, by decide +kernel⟩
abbrev s_ways_of : Stmt := topS 52
abbrev N_ways_of : List Str := ["sorts", "name"]
abbrev ps_ways_of : List Str := ["sorts"]
theorem sc_ways_of : FnScope N_ways_of ps_ways_of (defScope s_ways_of) := ⟨rfl, rfl, rfl, by decide +kernel, rfl, by decide +kernel, by decide +kernel⟩
abbrev s_ways_by : Stmt := topS 53
abbrev N_ways_by : List Str := ["rules", "ways", "found", "used", "at", "rule", "field"]
abbrev ps_ways_by : List Str := ["rules", "ways"]
theorem sc_ways_by : FnScope N_ways_by ps_ways_by (defScope s_ways_by) := ⟨rfl, rfl, rfl, by decide +kernel, rfl, by decide +kernel, by decide +kernel⟩
abbrev s_free : Stmt := topS 61
abbrev N_free : List Str := ["name", "sort", "default"]
abbrev ps_free : List Str := ["name", "sort", "default"]
theorem sc_free : FnScope N_free ps_free (defScope s_free) := ⟨rfl, rfl, rfl, by decide +kernel, rfl, by decide +kernel, by decide +kernel⟩
abbrev s_counts : Stmt := topS 62
abbrev N_counts : List Str := ["names", "name"]
abbrev ps_counts : List Str := ["names"]
theorem sc_counts : FnScope N_counts ps_counts (defScope s_counts) := ⟨rfl, rfl, rfl, by decide +kernel, rfl, by decide +kernel, by decide +kernel⟩
abbrev s_made : Stmt := topS 63
abbrev N_made : List Str := ["once", "with_template", "found"]
abbrev ps_made : List Str := ["once", "with_template"]
theorem sc_made : FnScope N_made ps_made (defScope s_made) := ⟨rfl, rfl, rfl, by decide +kernel, rfl, by decide +kernel, by decide +kernel⟩
abbrev s_known_makers : Stmt := topS 64
abbrev N_known_makers : List Str := ["found", "task", "replicas", "moves", "state", "job"]
abbrev ps_known_makers : List Str := []
theorem sc_known_makers : FnScope N_known_makers ps_known_makers (defScope s_known_makers) := ⟨rfl, rfl, rfl, by decide +kernel, rfl, by decide +kernel, by decide +kernel⟩
abbrev s_known_others : Stmt := topS 65
abbrev N_known_others : List Str := ["found", "match", "limits", "wish", "size", "lease"]
abbrev ps_known_others : List Str := []
theorem sc_known_others : FnScope N_known_others ps_known_others (defScope s_known_others) := ⟨rfl, rfl, rfl, by decide +kernel, rfl, by decide +kernel, by decide +kernel⟩
abbrev s__law_cell_at : Stmt := topS 68
abbrev N__law_cell_at : List Str := ["_law_script", "_law_k"]
abbrev ps__law_cell_at : List Str := ["_law_script", "_law_k"]
theorem sc__law_cell_at : FnScope N__law_cell_at ps__law_cell_at (defScope s__law_cell_at) := ⟨rfl, rfl, rfl, by decide +kernel, rfl, by decide +kernel, by decide +kernel⟩
abbrev s__law_source : Stmt := topS 69
abbrev N__law_source : List Str := ["_law_cell"]
abbrev ps__law_source : List Str := ["_law_cell"]
theorem sc__law_source : FnScope N__law_source ps__law_source (defScope s__law_source) := ⟨rfl, rfl, rfl, by decide +kernel, rfl, by decide +kernel, by decide +kernel⟩
abbrev s__law_draw : Stmt := topS 70
abbrev N__law_draw : List Str := ["_law_source_here", "_law_size", "_law_digit", "_law_number_here"]
abbrev ps__law_draw : List Str := ["_law_source_here", "_law_size"]
theorem sc__law_draw : FnScope N__law_draw ps__law_draw (defScope s__law_draw) := ⟨rfl, rfl, rfl, by decide +kernel, rfl, by decide +kernel, by decide +kernel⟩
abbrev s__law_pick : Stmt := topS 71
abbrev N__law_pick : List Str := ["_law_source_here", "_law_items"]
abbrev ps__law_pick : List Str := ["_law_source_here", "_law_items"]
theorem sc__law_pick : FnScope N__law_pick ps__law_pick (defScope s__law_pick) := ⟨rfl, rfl, rfl, by decide +kernel, rfl, by decide +kernel, by decide +kernel⟩
abbrev s__law_made : Stmt := topS 72
abbrev N__law_made : List Str := ["_law_once", "_law_rows"]
abbrev ps__law_made : List Str := ["_law_once"]
theorem sc__law_made : FnScope N__law_made ps__law_made (defScope s__law_made) := ⟨rfl, rfl, rfl, by decide +kernel, rfl, by decide +kernel, by decide +kernel⟩
abbrev s__law_counts : Stmt := topS 73
abbrev N__law_counts : List Str := ["_law_names", "_law_name"]
abbrev ps__law_counts : List Str := ["_law_names"]
theorem sc__law_counts : FnScope N__law_counts ps__law_counts (defScope s__law_counts) := ⟨rfl, rfl, rfl, by decide +kernel, rfl, by decide +kernel, by decide +kernel⟩
abbrev s__law_number : Stmt := topS 74
abbrev N__law_number : List Str := ["_law_name", "_law_low", "_law_high", "_law_default"]
abbrev ps__law_number : List Str := ["_law_name", "_law_low", "_law_high", "_law_default"]
theorem sc__law_number : FnScope N__law_number ps__law_number (defScope s__law_number) := ⟨rfl, rfl, rfl, by decide +kernel, rfl, by decide +kernel, by decide +kernel⟩
abbrev s__law_word : Stmt := topS 75
abbrev N__law_word : List Str := ["_law_name", "_law_words"]
abbrev ps__law_word : List Str := ["_law_name", "_law_words"]
theorem sc__law_word : FnScope N__law_word ps__law_word (defScope s__law_word) := ⟨rfl, rfl, rfl, by decide +kernel, rfl, by decide +kernel, by decide +kernel⟩
abbrev s__law_makers : Stmt := topS 76
abbrev N__law_makers : List Str := ["_law_template", "_law_loose", "_law_replicas", "_law_only", "_law_phases", "_law_found", "_law_moves", "_law_state", "_law_job"]
abbrev ps__law_makers : List Str := []
theorem sc__law_makers : FnScope N__law_makers ps__law_makers (defScope s__law_makers) := ⟨rfl, rfl, rfl, by decide +kernel, rfl, by decide +kernel, by decide +kernel⟩
abbrev s__law_others : Stmt := topS 77
abbrev N__law_others : List Str := ["_law_match", "_law_found", "_law_limits", "_law_wish", "_law_size", "_law_lease"]
abbrev ps__law_others : List Str := []
theorem sc__law_others : FnScope N__law_others ps__law_others (defScope s__law_others) := ⟨rfl, rfl, rfl, by decide +kernel, rfl, by decide +kernel, by decide +kernel⟩
abbrev s__law_right : Stmt := topS 78
abbrev N__law_right : List Str := ["_law_kinds", "_law_kind", "_law_due", "_law_fields", "_law_status", "_law_turn", "_law_told", "_law_some", "_law_row"]
abbrev ps__law_right : List Str := ["_law_kinds", "_law_kind", "_law_due"]
theorem sc__law_right : FnScope N__law_right ps__law_right (defScope s__law_right) := ⟨rfl, rfl, rfl, by decide +kernel, rfl, by decide +kernel, by decide +kernel⟩
abbrev s_law : Stmt := topS 79
abbrev N_law : List Str := ["_law_script", "_law_due", "_law_kinds", "_law_other", "_law_cell", "_law_source_here", "_law_left", "_law_kind", "e"]
abbrev ps_law : List Str := ["_law_script"]
theorem sc_law : FnScope N_law ps_law (defScope s_law) := ⟨rfl, rfl, rfl, by decide +kernel, rfl, by decide +kernel, by decide +kernel⟩
abbrev s_Way___init__ : Stmt := inClass (topS 48) 0
abbrev N_Way___init__ : List Str := ["self", "of", "sort", "factor", "more", "words"]
abbrev ps_Way___init__ : List Str := ["self", "of", "sort", "factor", "more", "words"]
theorem sc_Way___init__ : FnScope N_Way___init__ ps_Way___init__ (defScope s_Way___init__) := ⟨rfl, rfl, rfl, by decide +kernel, rfl, by decide +kernel, by decide +kernel⟩
abbrev s_Way_there : Stmt := inClass (topS 48) 1
abbrev N_Way_there : List Str := ["self", "value"]
abbrev ps_Way_there : List Str := ["self", "value"]
theorem sc_Way_there : FnScope N_Way_there ps_Way_there (defScope s_Way_there) := ⟨rfl, rfl, rfl, by decide +kernel, rfl, by decide +kernel, by decide +kernel⟩
abbrev s_Way_line : Stmt := inClass (topS 48) 2
abbrev N_Way_line : List Str := ["self", "factor", "more"]
abbrev ps_Way_line : List Str := ["self", "factor", "more"]
theorem sc_Way_line : FnScope N_Way_line ps_Way_line (defScope s_Way_line) := ⟨rfl, rfl, rfl, by decide +kernel, rfl, by decide +kernel, by decide +kernel⟩
abbrev s_Way_renamed : Stmt := inClass (topS 48) 3
abbrev N_Way_renamed : List Str := ["self", "words", "word"]
abbrev ps_Way_renamed : List Str := ["self", "words"]
theorem sc_Way_renamed : FnScope N_Way_renamed ps_Way_renamed (defScope s_Way_renamed) := ⟨rfl, rfl, rfl, by decide +kernel, rfl, by decide +kernel, by decide +kernel⟩
abbrev s_Kinds___init__ : Stmt := inClass (topS 66) 0
abbrev N_Kinds___init__ : List Str := ["self", "known", "kind", "fields", "status"]
abbrev ps_Kinds___init__ : List Str := ["self"]
theorem sc_Kinds___init__ : FnScope N_Kinds___init__ ps_Kinds___init__ (defScope s_Kinds___init__) := ⟨rfl, rfl, rfl, by decide +kernel, rfl, by decide +kernel, by decide +kernel⟩
abbrev s_Kinds_check_kind : Stmt := inClass (topS 66) 1
abbrev N_Kinds_check_kind : List Str := ["self", "kind"]
abbrev ps_Kinds_check_kind : List Str := ["self", "kind"]
theorem sc_Kinds_check_kind : FnScope N_Kinds_check_kind ps_Kinds_check_kind (defScope s_Kinds_check_kind) := ⟨rfl, rfl, rfl, by decide +kernel, rfl, by decide +kernel, by decide +kernel⟩
abbrev s_Kinds_add : Stmt := inClass (topS 66) 2
abbrev N_Kinds_add : List Str := ["self", "kind", "fields", "status", "row"]
abbrev ps_Kinds_add : List Str := ["self", "kind", "fields", "status"]
theorem sc_Kinds_add : FnScope N_Kinds_add ps_Kinds_add (defScope s_Kinds_add) := ⟨rfl, rfl, rfl, by decide +kernel, rfl, by decide +kernel, by decide +kernel⟩
abbrev s_Kinds_kinds : Stmt := inClass (topS 66) 3
abbrev N_Kinds_kinds : List Str := ["self"]
abbrev ps_Kinds_kinds : List Str := ["self"]
theorem sc_Kinds_kinds : FnScope N_Kinds_kinds ps_Kinds_kinds (defScope s_Kinds_kinds) := ⟨rfl, rfl, rfl, by decide +kernel, rfl, by decide +kernel, by decide +kernel⟩
abbrev s_Kinds_fields : Stmt := inClass (topS 66) 4
abbrev N_Kinds_fields : List Str := ["self", "kind", "name"]
abbrev ps_Kinds_fields : List Str := ["self", "kind"]
theorem sc_Kinds_fields : FnScope N_Kinds_fields ps_Kinds_fields (defScope s_Kinds_fields) := ⟨rfl, rfl, rfl, by decide +kernel, rfl, by decide +kernel, by decide +kernel⟩
abbrev s_Kinds_status_fields : Stmt := inClass (topS 66) 5
abbrev N_Kinds_status_fields : List Str := ["self", "kind", "name"]
abbrev ps_Kinds_status_fields : List Str := ["self", "kind"]
theorem sc_Kinds_status_fields : FnScope N_Kinds_status_fields ps_Kinds_status_fields (defScope s_Kinds_status_fields) := ⟨rfl, rfl, rfl, by decide +kernel, rfl, by decide +kernel, by decide +kernel⟩
abbrev s_Kinds_table_of : Stmt := inClass (topS 66) 6
abbrev N_Kinds_table_of : List Str := ["self", "kind", "table", "at"]
abbrev ps_Kinds_table_of : List Str := ["self", "kind", "table", "at"]
theorem sc_Kinds_table_of : FnScope N_Kinds_table_of ps_Kinds_table_of (defScope s_Kinds_table_of) := ⟨rfl, rfl, rfl, by decide +kernel, rfl, by decide +kernel, by decide +kernel⟩
abbrev s_Kinds_filled : Stmt := inClass (topS 66) 7
abbrev N_Kinds_filled : List Str := ["self", "kind", "spec", "rows", "found", "name", "row"]
abbrev ps_Kinds_filled : List Str := ["self", "kind", "spec"]
theorem sc_Kinds_filled : FnScope N_Kinds_filled ps_Kinds_filled (defScope s_Kinds_filled) := ⟨rfl, rfl, rfl, by decide +kernel, rfl, by decide +kernel, by decide +kernel⟩
abbrev s_Kinds_filled_status : Stmt := inClass (topS 66) 8
abbrev N_Kinds_filled_status : List Str := ["self", "kind", "status", "rows", "found", "name", "row"]
abbrev ps_Kinds_filled_status : List Str := ["self", "kind", "status"]
theorem sc_Kinds_filled_status : FnScope N_Kinds_filled_status ps_Kinds_filled_status (defScope s_Kinds_filled_status) := ⟨rfl, rfl, rfl, by decide +kernel, rfl, by decide +kernel, by decide +kernel⟩
abbrev s_Kinds_check_some : Stmt := inClass (topS 66) 9
abbrev N_Kinds_check_some : List Str := ["self", "kind", "spec", "rows"]
abbrev ps_Kinds_check_some : List Str := ["self", "kind", "spec"]
theorem sc_Kinds_check_some : FnScope N_Kinds_check_some ps_Kinds_check_some (defScope s_Kinds_check_some) := ⟨rfl, rfl, rfl, by decide +kernel, rfl, by decide +kernel, by decide +kernel⟩
abbrev s_Kinds_check : Stmt := inClass (topS 66) 10
abbrev N_Kinds_check : List Str := ["self", "kind", "spec", "rows", "missing", "whole", "name", "row"]
abbrev ps_Kinds_check : List Str := ["self", "kind", "spec"]
theorem sc_Kinds_check : FnScope N_Kinds_check ps_Kinds_check (defScope s_Kinds_check) := ⟨rfl, rfl, rfl, by decide +kernel, rfl, by decide +kernel, by decide +kernel⟩
abbrev s_Kinds_check_status : Stmt := inClass (topS 66) 11
abbrev N_Kinds_check_status : List Str := ["self", "kind", "status", "rows"]
abbrev ps_Kinds_check_status : List Str := ["self", "kind", "status"]
theorem sc_Kinds_check_status : FnScope N_Kinds_check_status ps_Kinds_check_status (defScope s_Kinds_check_status) := ⟨rfl, rfl, rfl, by decide +kernel, rfl, by decide +kernel, by decide +kernel⟩
abbrev s_Kinds_check_shape : Stmt := inClass (topS 66) 12
abbrev N_Kinds_check_shape : List Str := ["self", "kind", "name"]
abbrev ps_Kinds_check_shape : List Str := ["self", "kind", "name"]
theorem sc_Kinds_check_shape : FnScope N_Kinds_check_shape ps_Kinds_check_shape (defScope s_Kinds_check_shape) := ⟨rfl, rfl, rfl, by decide +kernel, rfl, by decide +kernel, by decide +kernel⟩
abbrev s_Kinds_shape : Stmt := inClass (topS 66) 13
abbrev N_Kinds_shape : List Str := ["self", "kind", "name", "base", "rules"]
abbrev ps_Kinds_shape : List Str := ["self", "kind", "name", "base", "rules"]
theorem sc_Kinds_shape : FnScope N_Kinds_shape ps_Kinds_shape (defScope s_Kinds_shape) := ⟨rfl, rfl, rfl, by decide +kernel, rfl, by decide +kernel, by decide +kernel⟩
abbrev s_Kinds_to_shape : Stmt := inClass (topS 66) 14
abbrev N_Kinds_to_shape : List Str := ["self", "kind", "name", "spec"]
abbrev ps_Kinds_to_shape : List Str := ["self", "kind", "name", "spec"]
theorem sc_Kinds_to_shape : FnScope N_Kinds_to_shape ps_Kinds_to_shape (defScope s_Kinds_to_shape) := ⟨rfl, rfl, rfl, by decide +kernel, rfl, by decide +kernel, by decide +kernel⟩
abbrev s_Kinds_from_shape : Stmt := inClass (topS 66) 15
abbrev N_Kinds_from_shape : List Str := ["self", "kind", "name", "table"]
abbrev ps_Kinds_from_shape : List Str := ["self", "kind", "name", "table"]
theorem sc_Kinds_from_shape : FnScope N_Kinds_from_shape ps_Kinds_from_shape (defScope s_Kinds_from_shape) := ⟨rfl, rfl, rfl, by decide +kernel, rfl, by decide +kernel, by decide +kernel⟩
abbrev s_Kinds_unlike : Stmt := inClass (topS 66) 16
abbrev N_Kinds_unlike : List Str := ["self", "kind", "one", "other"]
abbrev ps_Kinds_unlike : List Str := ["self", "kind", "one", "other"]
theorem sc_Kinds_unlike : FnScope N_Kinds_unlike ps_Kinds_unlike (defScope s_Kinds_unlike) := ⟨rfl, rfl, rfl, by decide +kernel, rfl, by decide +kernel, by decide +kernel⟩
abbrev FnP (K : PySem.W.Frag) (x : Str) (st : Stmt) (dvs : List V) (fd : FuncData) : Prop := FunD K x x (defArgs st) (defBody st) (defScope st) dvs [] (He.ga K x) fd
abbrev s_PEinit : Stmt := inClass (topS 2) 0
abbrev Ns_PEinit : List Str := ["self", "why"]
abbrev pss_PEinit : List Str := ["self", "why"]
theorem scs_PEinit : FnScope Ns_PEinit pss_PEinit (defScope s_PEinit) := ⟨rfl, rfl, rfl, by decide +kernel, rfl, by decide +kernel, by decide +kernel⟩
abbrev s_BadKindI : Stmt := inClass (topS 3) 0
abbrev Ns_BadKindI : List Str := ["self", "kind"]
abbrev pss_BadKindI : List Str := ["self", "kind"]
theorem scs_BadKindI : FnScope Ns_BadKindI pss_BadKindI (defScope s_BadKindI) := ⟨rfl, rfl, rfl, by decide +kernel, rfl, by decide +kernel, by decide +kernel⟩
abbrev s_BadFieldI : Stmt := inClass (topS 4) 0
abbrev Ns_BadFieldI : List Str := ["self", "field"]
abbrev pss_BadFieldI : List Str := ["self", "field"]
theorem scs_BadFieldI : FnScope Ns_BadFieldI pss_BadFieldI (defScope s_BadFieldI) := ⟨rfl, rfl, rfl, by decide +kernel, rfl, by decide +kernel, by decide +kernel⟩
abbrev s_BadShapeI : Stmt := inClass (topS 5) 0
abbrev Ns_BadShapeI : List Str := ["self", "shape"]
abbrev pss_BadShapeI : List Str := ["self", "shape"]
theorem scs_BadShapeI : FnScope Ns_BadShapeI pss_BadShapeI (defScope s_BadShapeI) := ⟨rfl, rfl, rfl, by decide +kernel, rfl, by decide +kernel, by decide +kernel⟩
abbrev s_BadRuleI : Stmt := inClass (topS 6) 0
abbrev Ns_BadRuleI : List Str := ["self", "at"]
abbrev pss_BadRuleI : List Str := ["self", "at"]
theorem scs_BadRuleI : FnScope Ns_BadRuleI pss_BadRuleI (defScope s_BadRuleI) := ⟨rfl, rfl, rfl, by decide +kernel, rfl, by decide +kernel, by decide +kernel⟩
abbrev s_LossyI : Stmt := inClass (topS 7) 0
abbrev Ns_LossyI : List Str := ["self", "one", "other"]
abbrev pss_LossyI : List Str := ["self", "one", "other"]
theorem scs_LossyI : FnScope Ns_LossyI pss_LossyI (defScope s_LossyI) := ⟨rfl, rfl, rfl, by decide +kernel, rfl, by decide +kernel, by decide +kernel⟩
/-! ### a hook that looks at the statics too -/
abbrev asY (g : Addr → Option Obj) : List Addr := cStatics :: He.asD g 6
def obsY (fa : List He.Fa) (fn : List He.DefD) (ts : List He.Tab) (tf : List He.Defn) (ex : PySem.W.Frag → Bool) (g : Addr → Option Obj) : He.AlX :=
  (He.obsT fa fn ts (He.frT g (asY g)), ex (He.frT g (asY g)) && He.tabsB g tf (He.frT g (asY g)))
theorem saysY {fa : List He.Fa} {fn : List He.DefD} {ts : List He.Tab} {tf : List He.Defn} {ex : PySem.W.Frag → Bool} {w : World} {h : Heap} (e : obsY fa fn ts tf ex h.get? = He.valX fn ts w) : He.SaysX fa fn ts tf ex w h (He.frT h.get? (asY h.get?)) := by
  have both : (ex (He.frT h.get? (asY h.get?)) && He.tabsB h.get? tf (He.frT h.get? (asY h.get?))) = true := congrArg (fun z : He.AlX => z.2) e
  obtain ⟨hx, ht⟩ := Bool.and_eq_true_iff.mp both
  have one : ∀ p ∈ tf, PySem.W.codeHdIn (He.frT h.get? (asY h.get?)) (He.cT (He.frT h.get? (asY h.get?)) p).1 (He.cT (He.frT h.get? (asY h.get?)) p).2 = true ∧ ∃ o, h.get? (He.cT (He.frT h.get? (asY h.get?)) p).2 = some o ∧ He.emptyTab o = true := by
    intro p hp
    obtain ⟨a1, a2⟩ := Bool.and_eq_true_iff.mp (List.all_eq_true.mp ht p hp)
    refine ⟨a1, ?_⟩
    split at a2
    · rename_i o q
      exact ⟨o, q, a2⟩
    · cases a2
  refine ⟨congrArg (fun z : He.AlX => z.1) e, hx, fun p hp => (one p hp).1, ?_, ?_⟩
  · intro p hp
    obtain ⟨_, o, q, z⟩ := one p hp
    exact He.frT_none (o := o) q z
  · intro p hp
    obtain ⟨_, o, q, z⟩ := one p hp
    exact q.trans (congrArg some (He.emptyTab_eq z))
def hookY (fa : List He.Fa) (fn : List He.DefD) (ts : List He.Tab) (tf : List He.Defn) (ex : PySem.W.Frag → Bool) : PySem.W.Hook :=
  { α := He.AlX, obs := fun s => obsY fa fn ts tf ex s.heap.get?, val := fun w => He.valX fn ts w, says := fun w h => ∃ K : PySem.W.Frag, K.In h ∧ He.SaysX fa fn ts tf ex w h K,
    of := fun _ _ e => ⟨_, He.frT_in, saysY e⟩,
    keeps := fun _ _ _ hk k => hk.elim fun K hc => ⟨K, PySem.W.Frag.In.keeps hc.1 k, ⟨hc.2.t, hc.2.more, hc.2.hd, hc.2.out, fun p hp => k _ _ (hc.2.empty p hp)⟩⟩ }
theorem obsY_eq {fa : List He.Fa} {fn : List He.DefD} {ts : List He.Tab} {tf : List He.Defn} {ex : PySem.W.Frag → Bool} {g : Addr → Option Obj} {s : Shared} (h : ∀ a, g a = s.heap.get? a) : obsY fa fn ts tf ex g = (hookY fa fn ts tf ex).obs s := by
  rw [show g = s.heap.get? from funext h]
  rfl
/-! the class at C is an own exception class over ValueError: field by field, each field by a look of its own -/
def lookCls (o : Obj) : Option ClassData := match o.data with | .cls cd => some cd | _ => none
def lookTail (C : Addr) : List Value → Option (List Value)
  | .ref b :: bm => if b = C then some bm else none
  | _ => none
abbrev Slot5 : Type := Option Value × Option Value × Option Value × Option Value × Option Value
def lookSlots (l : List (Option Value)) : Option Slot5 := match l with
  | [k0, k1, k2, k3, some (.builtin n), k5] => if n = "ValueError.__new__" then some (k0, k1, k2, k3, k5) else none
  | _ => none
theorem lookCls_of {o : Obj} {cd : ClassData} (h : lookCls o = some cd) : o.data = .cls cd := by
  unfold lookCls at h; split at h <;> first | (cases h; assumption) | cases h
theorem lookTail_of {C : Addr} : ∀ {l bm : List Value}, lookTail C l = some bm → l = .ref C :: bm := by
  intro l bm h; unfold lookTail at h; split at h
  · split at h <;> first | (subst_vars; cases h; rfl) | cases h
  · cases h
theorem lookSlots_of {l : List (Option Value)} {k : Slot5} (h : lookSlots l = some k) : l = [k.1, k.2.1, k.2.2.1, k.2.2.2.1, some (.builtin "ValueError.__new__"), k.2.2.2.2] := by
  unfold lookSlots at h; split at h
  · split at h <;> first | (subst_vars; cases h; rfl) | cases h
  · cases h
def oexAt (C : Addr) (o : Obj) : Bool := match lookCls o, lookSlots o.slots.toList with
  | some cd, some _ => (match lookTail C cd.mro with | some bm => PySem.HandSPX.refsVE bm | none => false) && (cd.hasDict && (!cd.hasDel && decide (o.cls = .type "type")))
  | _, _ => false
def oexB (K : PySem.W.Frag) (C : Addr) : Bool := (match K.lookup C with | some o => oexAt C o | none => false) && (decide (PySem.W.findIn K (.ref C) "__setattr__" = some (some (.builtin "object.__setattr__"))) && (decide (PySem.W.subIn K (.ref C) (.type "BaseException") = some true) && (decide (PySem.W.typeIn K (.ref C) = some (.type "type")) && PySem.W.keepIn K (.ref C))))
/-- the parts put together again -/
theorem oexAt_of {C : Addr} {o : Obj} (h : oexAt C o = true) : ∃ nm q N bs bm sn sub ab col dd k0 k1 k2 k3 k5, o = excClassObj nm q C N bs bm true sn sub ab col dd k0 k1 k2 k3 k5 "ValueError.__new__" ∧ PySem.HandSPX.refsVE bm = true := by
  unfold oexAt at h
  cases e1 : lookCls o with
  | none => rw [e1] at h; exact Bool.noConfusion h
  | some cd =>
    cases e2 : lookSlots o.slots.toList with
    | none => rw [e1, e2] at h; exact Bool.noConfusion h
    | some k =>
      rw [e1, e2] at h
      have ⟨tail, h⟩ := Bool.and_eq_true_iff.mp h
      have ⟨hasD, h⟩ := Bool.and_eq_true_iff.mp h
      have ⟨noDel, ty⟩ := Bool.and_eq_true_iff.mp h
      cases e3 : lookTail C cd.mro with
      | none => rw [e3] at tail; exact Bool.noConfusion tail
      | some bm =>
        rw [e3] at tail
        have data := lookCls_of e1
        have slots := lookSlots_of e2
        have mro := lookTail_of e3
        have tyE := of_decide_eq_true ty
        clear ty
        have dele : cd.hasDel = false := (Bool.not_eq_true' _).mp noDel
        clear noDel e1 e2 e3 h
        refine ⟨cd.name, cd.qualname, cd.ns, cd.bases, bm, cd.slotNames, cd.subclasses, cd.abstract, cd.collection, o.dict, k.1, k.2.1, k.2.2.1, k.2.2.2.1, k.2.2.2.2, ?_, tail⟩
        obtain ⟨ocls, odict, odata, ⟨osl⟩⟩ := o
        obtain ⟨nm, bs, mr, nsp, qn, hd, sn, sub, ab, col, del⟩ := cd
        dsimp only at data slots mro tyE dele hasD ⊢
        subst data slots mro tyE dele hasD
        rfl
theorem oexB_ok {K : PySem.W.Frag} {C : Addr} (h : oexB K C = true) : OexC K C := by
  unfold oexB at h
  have ⟨at_, h⟩ := Bool.and_eq_true_iff.mp h
  have ⟨sa, h⟩ := Bool.and_eq_true_iff.mp h
  have ⟨exC, h⟩ := Bool.and_eq_true_iff.mp h
  have ⟨tyC, kC⟩ := Bool.and_eq_true_iff.mp h
  cases look : K.lookup C with
  | none => rw [look] at at_; exact Bool.noConfusion at_
  | some o =>
    rw [look] at at_
    have ⟨nm, q, N, bs, bm, sn, sub, ab, col, dd, k0, k1, k2, k3, k5, e, ve⟩ := oexAt_of at_
    exact ⟨⟨nm, q, N, bs, bm, sn, sub, ab, col, dd, k0, k1, k2, k3, k5, e ▸ look, ve⟩, of_decide_eq_true sa, of_decide_eq_true exC, of_decide_eq_true tyC, kC⟩
/-- what isinstance and the fields of a caught error ask of its class -/
def excB (K : PySem.W.Frag) (C : Addr) : Bool := (PySem.W.clsIn K C).isSome && (xfB K C && (decide (PySem.W.findIn K (.ref C) "__class__" = some (some (.builtin "object.__class__"))) &&
  (decide (PySem.W.specialIn K (.builtin "object.__class__") "__get__" = some (some (.builtin "getset_descriptor.__get__"))) && (decide (PySem.W.takesIn K (.builtin "object.__class__") = some true) && decide (PySem.W.mroIn K C (.type "object") = some true)))))
def veiB (K : PySem.W.Frag) : Bool := match PySem.W.findCls K (.type "ValueError") (.type "type") "__init__" with
  | some (.val (.builtin x)) => decide (x = "ValueError.__init__")
  | _ => false
theorem veiB_ok {K : PySem.W.Frag} (h : veiB K = true) : PySem.W.findCls K (.type "ValueError") (.type "type") "__init__" = some (.val (.builtin "ValueError.__init__")) := by
  unfold veiB at h
  split at h
  · rename_i x e
    rw [e, of_decide_eq_true h]
  · cases h
def cfB (K : PySem.W.Frag) (C f : Addr) : Bool := match PySem.W.findCls K (.ref C) (.type "type") "__init__" with
  | some (.val (.ref x)) => decide (x = f)
  | _ => false
theorem cfB_ok {K : PySem.W.Frag} {C f : Addr} (h : cfB K C f = true) : PySem.W.findCls K (.ref C) (.type "type") "__init__" = some (.val (.ref f)) := by
  unfold cfB at h
  split at h
  · rename_i x e
    rw [e, of_decide_eq_true h]
  · cases h
def exL (K : PySem.W.Frag) : List Bool := [veiB K,
  decide (PySem.W.specialIn K (.ref (He.ga K "PlaneError")) "__getattribute__" = some (some (.builtin "type.__getattribute__"))),
  decide (PySem.W.typeIn K (.ref (He.ga K "PlaneError")) = some (.type "type")),
  PySem.W.readsIn K (He.ga K "PlaneError") (.type "type"),
  cfB K (He.ga K "PlaneError") (He.fAd K ("PlaneError", some "__init__")),
  PySem.W.keepIn K (.ref (He.fAd K ("PlaneError", some "__init__"))),
  oexB K (He.ga K "BadKind"),
  excB K (He.ga K "BadKind"),
  decide (PySem.W.findIn K (.ref (He.ga K "BadKind")) "__init__" = some (some (.ref (He.fAd K ("BadKind", some "__init__"))))),
  decide (PySem.W.typeIn K (.ref (He.fAd K ("BadKind", some "__init__"))) = some (.type "function")),
  decide (PySem.W.findIn K (.ref (He.ga K "BadKind")) "why" = some none),
  decide (PySem.W.findIn K (.ref (He.ga K "BadKind")) "kind" = some none),
  oexB K (He.ga K "BadField"),
  excB K (He.ga K "BadField"),
  decide (PySem.W.findIn K (.ref (He.ga K "BadField")) "__init__" = some (some (.ref (He.fAd K ("BadField", some "__init__"))))),
  decide (PySem.W.typeIn K (.ref (He.fAd K ("BadField", some "__init__"))) = some (.type "function")),
  decide (PySem.W.findIn K (.ref (He.ga K "BadField")) "why" = some none),
  decide (PySem.W.findIn K (.ref (He.ga K "BadField")) "field" = some none),
  oexB K (He.ga K "BadShape"),
  excB K (He.ga K "BadShape"),
  decide (PySem.W.findIn K (.ref (He.ga K "BadShape")) "__init__" = some (some (.ref (He.fAd K ("BadShape", some "__init__"))))),
  decide (PySem.W.typeIn K (.ref (He.fAd K ("BadShape", some "__init__"))) = some (.type "function")),
  decide (PySem.W.findIn K (.ref (He.ga K "BadShape")) "why" = some none),
  decide (PySem.W.findIn K (.ref (He.ga K "BadShape")) "bad" = some none),
  oexB K (He.ga K "BadRule"),
  excB K (He.ga K "BadRule"),
  decide (PySem.W.findIn K (.ref (He.ga K "BadRule")) "__init__" = some (some (.ref (He.fAd K ("BadRule", some "__init__"))))),
  decide (PySem.W.typeIn K (.ref (He.fAd K ("BadRule", some "__init__"))) = some (.type "function")),
  decide (PySem.W.findIn K (.ref (He.ga K "BadRule")) "why" = some none),
  decide (PySem.W.findIn K (.ref (He.ga K "BadRule")) "at" = some none),
  oexB K (He.ga K "Lossy"),
  excB K (He.ga K "Lossy"),
  decide (PySem.W.findIn K (.ref (He.ga K "Lossy")) "__init__" = some (some (.ref (He.fAd K ("Lossy", some "__init__"))))),
  decide (PySem.W.typeIn K (.ref (He.fAd K ("Lossy", some "__init__"))) = some (.type "function")),
  decide (PySem.W.findIn K (.ref (He.ga K "Lossy")) "why" = some none),
  decide (PySem.W.findIn K (.ref (He.ga K "Lossy")) "one" = some none),
  decide (PySem.W.findIn K (.ref (He.ga K "Lossy")) "other" = some none),
  decide (PySem.W.exmOne K (.ref (He.ga K "BadKind")) (.ref (He.ga K "BadKind")) = some true),
  decide (PySem.W.exmOne K (.ref (He.ga K "BadField")) (.ref (He.ga K "BadKind")) = some false),
  decide (PySem.W.exmOne K (.ref (He.ga K "BadShape")) (.ref (He.ga K "BadKind")) = some false),
  decide (PySem.W.exmOne K (.ref (He.ga K "BadRule")) (.ref (He.ga K "BadKind")) = some false),
  decide (PySem.W.exmOne K (.ref (He.ga K "Lossy")) (.ref (He.ga K "BadKind")) = some false),
  He.valsB K (He.ga K "HIGHEST") [("s", .int 99), ("j", .int 99), ("r", .int 999999)],
  ktupB K (He.ga K "NAME") [(.str "name")],
  ktupB K (He.ga K "LABEL") [(.str "label")],
  ktupB K (He.ga K "TEXT") [(.str "text")],
  ktupB K (He.ga K "SELECTOR") [(.str "selector")],
  ktupB K (He.ga K "PHASES") [(.str "pending"), (.str "running"), (.str "ready"), (.str "done"), (.str "failed")],
  ktupB K (He.ga K "COUNT") [(.str "number"), (.int 0), (.int 99)],
  ktupB K (He.ga K "TWELVE") [(.str "number"), (.int 0), (.int 12)],
  ktupB K (He.ga K "AMOUNT") [(.str "number"), (.int 0), (.int 64)],
  ktupB K (He.ga K "TEMPLATE") [(.str "number"), (.int 0), (.int 999999)],
  ktupB K (He.ga K "LONG") [(.str "number"), (.int 1), (.int 999)]]
def exB (K : PySem.W.Frag) : Bool := (exL K).all id
theorem exAt {K : PySem.W.Frag} (h : exB K = true) (i : Nat) {b : Bool} (e : (exL K)[i]? = some b) : b = true := List.all_eq_true.mp h b (List.mem_of_getElem? e)
structure ExT (K : PySem.W.Frag) : Prop where
  vei : PySem.W.findCls K (.type "ValueError") (.type "type") "__init__" = some (.val (.builtin "ValueError.__init__"))
  bga_PlaneError : PySem.W.specialIn K (.ref (He.ga K "PlaneError")) "__getattribute__" = some (some (.builtin "type.__getattribute__"))
  bty_PlaneError : PySem.W.typeIn K (.ref (He.ga K "PlaneError")) = some (.type "type")
  brd_PlaneError : PySem.W.readsIn K (He.ga K "PlaneError") (.type "type") = true
  bin_PlaneError : PySem.W.findCls K (.ref (He.ga K "PlaneError")) (.type "type") "__init__" = some (.val (.ref (He.fAd K ("PlaneError", some "__init__"))))
  bkp_PlaneError : PySem.W.keepIn K (.ref (He.fAd K ("PlaneError", some "__init__"))) = true
  oex_BadKind : OexC K (He.ga K "BadKind")
  exc_BadKind : excB K (He.ga K "BadKind") = true
  ini_BadKind : PySem.W.findIn K (.ref (He.ga K "BadKind")) "__init__" = some (some (.ref (He.fAd K ("BadKind", some "__init__"))))
  tin_BadKind : PySem.W.typeIn K (.ref (He.fAd K ("BadKind", some "__init__"))) = some (.type "function")
  no_BadKind_why : PySem.W.findIn K (.ref (He.ga K "BadKind")) "why" = some none
  no_BadKind_kind : PySem.W.findIn K (.ref (He.ga K "BadKind")) "kind" = some none
  oex_BadField : OexC K (He.ga K "BadField")
  exc_BadField : excB K (He.ga K "BadField") = true
  ini_BadField : PySem.W.findIn K (.ref (He.ga K "BadField")) "__init__" = some (some (.ref (He.fAd K ("BadField", some "__init__"))))
  tin_BadField : PySem.W.typeIn K (.ref (He.fAd K ("BadField", some "__init__"))) = some (.type "function")
  no_BadField_why : PySem.W.findIn K (.ref (He.ga K "BadField")) "why" = some none
  no_BadField_field : PySem.W.findIn K (.ref (He.ga K "BadField")) "field" = some none
  oex_BadShape : OexC K (He.ga K "BadShape")
  exc_BadShape : excB K (He.ga K "BadShape") = true
  ini_BadShape : PySem.W.findIn K (.ref (He.ga K "BadShape")) "__init__" = some (some (.ref (He.fAd K ("BadShape", some "__init__"))))
  tin_BadShape : PySem.W.typeIn K (.ref (He.fAd K ("BadShape", some "__init__"))) = some (.type "function")
  no_BadShape_why : PySem.W.findIn K (.ref (He.ga K "BadShape")) "why" = some none
  no_BadShape_bad : PySem.W.findIn K (.ref (He.ga K "BadShape")) "bad" = some none
  oex_BadRule : OexC K (He.ga K "BadRule")
  exc_BadRule : excB K (He.ga K "BadRule") = true
  ini_BadRule : PySem.W.findIn K (.ref (He.ga K "BadRule")) "__init__" = some (some (.ref (He.fAd K ("BadRule", some "__init__"))))
  tin_BadRule : PySem.W.typeIn K (.ref (He.fAd K ("BadRule", some "__init__"))) = some (.type "function")
  no_BadRule_why : PySem.W.findIn K (.ref (He.ga K "BadRule")) "why" = some none
  no_BadRule_at : PySem.W.findIn K (.ref (He.ga K "BadRule")) "at" = some none
  oex_Lossy : OexC K (He.ga K "Lossy")
  exc_Lossy : excB K (He.ga K "Lossy") = true
  ini_Lossy : PySem.W.findIn K (.ref (He.ga K "Lossy")) "__init__" = some (some (.ref (He.fAd K ("Lossy", some "__init__"))))
  tin_Lossy : PySem.W.typeIn K (.ref (He.fAd K ("Lossy", some "__init__"))) = some (.type "function")
  no_Lossy_why : PySem.W.findIn K (.ref (He.ga K "Lossy")) "why" = some none
  no_Lossy_one : PySem.W.findIn K (.ref (He.ga K "Lossy")) "one" = some none
  no_Lossy_other : PySem.W.findIn K (.ref (He.ga K "Lossy")) "other" = some none
  exm_BadKind_BadKind : PySem.W.exmOne K (.ref (He.ga K "BadKind")) (.ref (He.ga K "BadKind")) = some true
  exm_BadField_BadKind : PySem.W.exmOne K (.ref (He.ga K "BadField")) (.ref (He.ga K "BadKind")) = some false
  exm_BadShape_BadKind : PySem.W.exmOne K (.ref (He.ga K "BadShape")) (.ref (He.ga K "BadKind")) = some false
  exm_BadRule_BadKind : PySem.W.exmOne K (.ref (He.ga K "BadRule")) (.ref (He.ga K "BadKind")) = some false
  exm_Lossy_BadKind : PySem.W.exmOne K (.ref (He.ga K "Lossy")) (.ref (He.ga K "BadKind")) = some false
  val_HIGHEST : He.valsB K (He.ga K "HIGHEST") [("s", .int 99), ("j", .int 99), ("r", .int 999999)] = true
  t_NAME : ktupB K (He.ga K "NAME") [(.str "name")] = true
  t_LABEL : ktupB K (He.ga K "LABEL") [(.str "label")] = true
  t_TEXT : ktupB K (He.ga K "TEXT") [(.str "text")] = true
  t_SELECTOR : ktupB K (He.ga K "SELECTOR") [(.str "selector")] = true
  t_PHASES : ktupB K (He.ga K "PHASES") [(.str "pending"), (.str "running"), (.str "ready"), (.str "done"), (.str "failed")] = true
  t_COUNT : ktupB K (He.ga K "COUNT") [(.str "number"), (.int 0), (.int 99)] = true
  t_TWELVE : ktupB K (He.ga K "TWELVE") [(.str "number"), (.int 0), (.int 12)] = true
  t_AMOUNT : ktupB K (He.ga K "AMOUNT") [(.str "number"), (.int 0), (.int 64)] = true
  t_TEMPLATE : ktupB K (He.ga K "TEMPLATE") [(.str "number"), (.int 0), (.int 999999)] = true
  t_LONG : ktupB K (He.ga K "LONG") [(.str "number"), (.int 1), (.int 999)] = true
theorem exT {K : PySem.W.Frag} (h : exB K = true) : ExT K := ⟨veiB_ok (exAt h 0 rfl),
  of_decide_eq_true (exAt h 1 rfl),
  of_decide_eq_true (exAt h 2 rfl),
  id (exAt h 3 rfl),
  cfB_ok (exAt h 4 rfl),
  id (exAt h 5 rfl),
  oexB_ok (exAt h 6 rfl),
  id (exAt h 7 rfl),
  of_decide_eq_true (exAt h 8 rfl),
  of_decide_eq_true (exAt h 9 rfl),
  of_decide_eq_true (exAt h 10 rfl),
  of_decide_eq_true (exAt h 11 rfl),
  oexB_ok (exAt h 12 rfl),
  id (exAt h 13 rfl),
  of_decide_eq_true (exAt h 14 rfl),
  of_decide_eq_true (exAt h 15 rfl),
  of_decide_eq_true (exAt h 16 rfl),
  of_decide_eq_true (exAt h 17 rfl),
  oexB_ok (exAt h 18 rfl),
  id (exAt h 19 rfl),
  of_decide_eq_true (exAt h 20 rfl),
  of_decide_eq_true (exAt h 21 rfl),
  of_decide_eq_true (exAt h 22 rfl),
  of_decide_eq_true (exAt h 23 rfl),
  oexB_ok (exAt h 24 rfl),
  id (exAt h 25 rfl),
  of_decide_eq_true (exAt h 26 rfl),
  of_decide_eq_true (exAt h 27 rfl),
  of_decide_eq_true (exAt h 28 rfl),
  of_decide_eq_true (exAt h 29 rfl),
  oexB_ok (exAt h 30 rfl),
  id (exAt h 31 rfl),
  of_decide_eq_true (exAt h 32 rfl),
  of_decide_eq_true (exAt h 33 rfl),
  of_decide_eq_true (exAt h 34 rfl),
  of_decide_eq_true (exAt h 35 rfl),
  of_decide_eq_true (exAt h 36 rfl),
  of_decide_eq_true (exAt h 37 rfl),
  of_decide_eq_true (exAt h 38 rfl),
  of_decide_eq_true (exAt h 39 rfl),
  of_decide_eq_true (exAt h 40 rfl),
  of_decide_eq_true (exAt h 41 rfl),
  id (exAt h 42 rfl),
  id (exAt h 43 rfl),
  id (exAt h 44 rfl),
  id (exAt h 45 rfl),
  id (exAt h 46 rfl),
  id (exAt h 47 rfl),
  id (exAt h 48 rfl),
  id (exAt h 49 rfl),
  id (exAt h 50 rfl),
  id (exAt h 51 rfl),
  id (exAt h 52 rfl)⟩
theorem kdct_of {K : PySem.W.Frag} {w : World} {a : Addr} {kvs : List (Str × He.Dv)} (h : ∃ es n, KDict K w a es n) (hv : He.valsB K a kvs = true) {q : Str × He.Dv} (hq : q ∈ kvs) : KDct K w a q.1 (q.2.v K) := by
  obtain ⟨es, n, hl, hk, _⟩ := h
  obtain ⟨u, e, r⟩ := He.valsB_ok hv hq
  exact ⟨es, n, u, hl, hk, e, r⟩
structure Txt (K : PySem.W.Frag) (mg : Str → Option Value) (w : World) : Prop where
  g__wall : mg "_wall" = some (.ref (He.ga K "_wall"))
  d__wall : ∃ fd, FnP K "_wall" s__wall [] fd
  g_is_integer : mg "is_integer" = some (.ref (He.ga K "is_integer"))
  d_is_integer : ∃ fd, FnP K "is_integer" s_is_integer [] fd
  g_is_user_name : mg "is_user_name" = some (.ref (He.ga K "is_user_name"))
  d_is_user_name : ∃ fd, FnP K "is_user_name" s_is_user_name [] fd
  g_number_of : mg "number_of" = some (.ref (He.ga K "number_of"))
  d_number_of : ∃ fd, FnP K "number_of" s_number_of [] fd
  g_part_of : mg "part_of" = some (.ref (He.ga K "part_of"))
  d_part_of : ∃ fd, FnP K "part_of" s_part_of [] fd
  g_apart : mg "apart" = some (.ref (He.ga K "apart"))
  d_apart : ∃ fd, FnP K "apart" s_apart [] fd
  g_is_maker : mg "is_maker" = some (.ref (He.ga K "is_maker"))
  d_is_maker : ∃ fd, FnP K "is_maker" s_is_maker [] fd
  g_is_name : mg "is_name" = some (.ref (He.ga K "is_name"))
  d_is_name : ∃ fd, FnP K "is_name" s_is_name [] fd
  g_is_label_value : mg "is_label_value" = some (.ref (He.ga K "is_label_value"))
  d_is_label_value : ∃ fd, FnP K "is_label_value" s_is_label_value [] fd
  g_requirement : mg "requirement" = some (.ref (He.ga K "requirement"))
  d_requirement : ∃ fd, FnP K "requirement" s_requirement [] fd
  g_rows_of : mg "rows_of" = some (.ref (He.ga K "rows_of"))
  d_rows_of : ∃ fd, FnP K "rows_of" s_rows_of [] fd
  g_is_selector : mg "is_selector" = some (.ref (He.ga K "is_selector"))
  d_is_selector : ∃ fd, FnP K "is_selector" s_is_selector [] fd
  g_is_bounded : mg "is_bounded" = some (.ref (He.ga K "is_bounded"))
  d_is_bounded : ∃ fd, FnP K "is_bounded" s_is_bounded [] fd
  g_is_sort : mg "is_sort" = some (.ref (He.ga K "is_sort"))
  d_is_sort : ∃ fd, FnP K "is_sort" s_is_sort [] fd
  g_is_text : mg "is_text" = some (.ref (He.ga K "is_text"))
  d_is_text : ∃ fd, FnP K "is_text" s_is_text [] fd
  g_fits : mg "fits" = some (.ref (He.ga K "fits"))
  d_fits : ∃ fd, FnP K "fits" s_fits [] fd
  g_is_field : mg "is_field" = some (.ref (He.ga K "is_field"))
  d_is_field : ∃ fd, FnP K "is_field" s_is_field [] fd
  g_check_rows : mg "check_rows" = some (.ref (He.ga K "check_rows"))
  d_check_rows : ∃ fd, FnP K "check_rows" s_check_rows [] fd
  g_by_name : mg "by_name" = some (.ref (He.ga K "by_name"))
  d_by_name : ∃ fd, FnP K "by_name" s_by_name [] fd
  g_check_given : mg "check_given" = some (.ref (He.ga K "check_given"))
  d_check_given : ∃ fd, FnP K "check_given" s_check_given [] fd
  g_some_value : mg "some_value" = some (.ref (He.ga K "some_value"))
  d_some_value : ∃ fd, FnP K "some_value" s_some_value [] fd
  g_is_pairs : mg "is_pairs" = some (.ref (He.ga K "is_pairs"))
  d_is_pairs : ∃ fd, FnP K "is_pairs" s_is_pairs [] fd
  g_is_rule : mg "is_rule" = some (.ref (He.ga K "is_rule"))
  d_is_rule : ∃ fd, FnP K "is_rule" s_is_rule [] fd
  g_way_by : mg "way_by" = some (.ref (He.ga K "way_by"))
  d_way_by : ∃ fd, FnP K "way_by" s_way_by [] fd
  g_ways_of : mg "ways_of" = some (.ref (He.ga K "ways_of"))
  d_ways_of : ∃ fd, FnP K "ways_of" s_ways_of [] fd
  g_ways_by : mg "ways_by" = some (.ref (He.ga K "ways_by"))
  d_ways_by : ∃ fd, FnP K "ways_by" s_ways_by [] fd
  g_free : mg "free" = some (.ref (He.ga K "free"))
  d_free : ∃ fd, FnP K "free" s_free [] fd
  g_counts : mg "counts" = some (.ref (He.ga K "counts"))
  d_counts : ∃ fd, FnP K "counts" s_counts [] fd
  g_made : mg "made" = some (.ref (He.ga K "made"))
  d_made : ∃ fd, FnP K "made" s_made [.bl true] fd
  g_known_makers : mg "known_makers" = some (.ref (He.ga K "known_makers"))
  d_known_makers : ∃ fd, FnP K "known_makers" s_known_makers [] fd
  g_known_others : mg "known_others" = some (.ref (He.ga K "known_others"))
  d_known_others : ∃ fd, FnP K "known_others" s_known_others [] fd
  g__law_cell_at : mg "_law_cell_at" = some (.ref (He.ga K "_law_cell_at"))
  d__law_cell_at : ∃ fd, FnP K "_law_cell_at" s__law_cell_at [] fd
  g__law_source : mg "_law_source" = some (.ref (He.ga K "_law_source"))
  d__law_source : ∃ fd, FnP K "_law_source" s__law_source [] fd
  g__law_draw : mg "_law_draw" = some (.ref (He.ga K "_law_draw"))
  d__law_draw : ∃ fd, FnP K "_law_draw" s__law_draw [] fd
  g__law_pick : mg "_law_pick" = some (.ref (He.ga K "_law_pick"))
  d__law_pick : ∃ fd, FnP K "_law_pick" s__law_pick [] fd
  g__law_made : mg "_law_made" = some (.ref (He.ga K "_law_made"))
  d__law_made : ∃ fd, FnP K "_law_made" s__law_made [] fd
  g__law_counts : mg "_law_counts" = some (.ref (He.ga K "_law_counts"))
  d__law_counts : ∃ fd, FnP K "_law_counts" s__law_counts [] fd
  g__law_number : mg "_law_number" = some (.ref (He.ga K "_law_number"))
  d__law_number : ∃ fd, FnP K "_law_number" s__law_number [] fd
  g__law_word : mg "_law_word" = some (.ref (He.ga K "_law_word"))
  d__law_word : ∃ fd, FnP K "_law_word" s__law_word [] fd
  g__law_makers : mg "_law_makers" = some (.ref (He.ga K "_law_makers"))
  d__law_makers : ∃ fd, FnP K "_law_makers" s__law_makers [] fd
  g__law_others : mg "_law_others" = some (.ref (He.ga K "_law_others"))
  d__law_others : ∃ fd, FnP K "_law_others" s__law_others [] fd
  g__law_right : mg "_law_right" = some (.ref (He.ga K "_law_right"))
  d__law_right : ∃ fd, FnP K "_law_right" s__law_right [] fd
  g_law : mg "law" = some (.ref (He.ga K "law"))
  d_law : ∃ fd, FnP K "law" s_law [] fd
  d_Way___init__ : ∃ fd, FunD K "__init__" "Way.__init__" (defArgs s_Way___init__) (defBody s_Way___init__) (defScope s_Way___init__) [.int 1, .int 0, .non] [] (He.fAd K ("Way", some "__init__")) fd
  d_Way_there : ∃ fd, FunD K "there" "Way.there" (defArgs s_Way_there) (defBody s_Way_there) (defScope s_Way_there) [] [] (He.fAd K ("Way", some "there")) fd
  d_Way_line : ∃ fd, FunD K "line" "Way.line" (defArgs s_Way_line) (defBody s_Way_line) (defScope s_Way_line) [] [] (He.fAd K ("Way", some "line")) fd
  d_Way_renamed : ∃ fd, FunD K "renamed" "Way.renamed" (defArgs s_Way_renamed) (defBody s_Way_renamed) (defScope s_Way_renamed) [] [] (He.fAd K ("Way", some "renamed")) fd
  d_Kinds___init__ : ∃ fd, FunD K "__init__" "Kinds.__init__" (defArgs s_Kinds___init__) (defBody s_Kinds___init__) (defScope s_Kinds___init__) [] [] (He.fAd K ("Kinds", some "__init__")) fd
  d_Kinds_check_kind : ∃ fd, FunD K "check_kind" "Kinds.check_kind" (defArgs s_Kinds_check_kind) (defBody s_Kinds_check_kind) (defScope s_Kinds_check_kind) [] [] (He.fAd K ("Kinds", some "check_kind")) fd
  d_Kinds_add : ∃ fd, FunD K "add" "Kinds.add" (defArgs s_Kinds_add) (defBody s_Kinds_add) (defScope s_Kinds_add) [] [] (He.fAd K ("Kinds", some "add")) fd
  d_Kinds_kinds : ∃ fd, FunD K "kinds" "Kinds.kinds" (defArgs s_Kinds_kinds) (defBody s_Kinds_kinds) (defScope s_Kinds_kinds) [] [] (He.fAd K ("Kinds", some "kinds")) fd
  d_Kinds_fields : ∃ fd, FunD K "fields" "Kinds.fields" (defArgs s_Kinds_fields) (defBody s_Kinds_fields) (defScope s_Kinds_fields) [] [] (He.fAd K ("Kinds", some "fields")) fd
  d_Kinds_status_fields : ∃ fd, FunD K "status_fields" "Kinds.status_fields" (defArgs s_Kinds_status_fields) (defBody s_Kinds_status_fields) (defScope s_Kinds_status_fields) [] [] (He.fAd K ("Kinds", some "status_fields")) fd
  d_Kinds_table_of : ∃ fd, FunD K "table_of" "Kinds.table_of" (defArgs s_Kinds_table_of) (defBody s_Kinds_table_of) (defScope s_Kinds_table_of) [] [] (He.fAd K ("Kinds", some "table_of")) fd
  d_Kinds_filled : ∃ fd, FunD K "filled" "Kinds.filled" (defArgs s_Kinds_filled) (defBody s_Kinds_filled) (defScope s_Kinds_filled) [] [] (He.fAd K ("Kinds", some "filled")) fd
  d_Kinds_filled_status : ∃ fd, FunD K "filled_status" "Kinds.filled_status" (defArgs s_Kinds_filled_status) (defBody s_Kinds_filled_status) (defScope s_Kinds_filled_status) [] [] (He.fAd K ("Kinds", some "filled_status")) fd
  d_Kinds_check_some : ∃ fd, FunD K "check_some" "Kinds.check_some" (defArgs s_Kinds_check_some) (defBody s_Kinds_check_some) (defScope s_Kinds_check_some) [] [] (He.fAd K ("Kinds", some "check_some")) fd
  d_Kinds_check : ∃ fd, FunD K "check" "Kinds.check" (defArgs s_Kinds_check) (defBody s_Kinds_check) (defScope s_Kinds_check) [] [] (He.fAd K ("Kinds", some "check")) fd
  d_Kinds_check_status : ∃ fd, FunD K "check_status" "Kinds.check_status" (defArgs s_Kinds_check_status) (defBody s_Kinds_check_status) (defScope s_Kinds_check_status) [] [] (He.fAd K ("Kinds", some "check_status")) fd
  d_Kinds_check_shape : ∃ fd, FunD K "check_shape" "Kinds.check_shape" (defArgs s_Kinds_check_shape) (defBody s_Kinds_check_shape) (defScope s_Kinds_check_shape) [] [] (He.fAd K ("Kinds", some "check_shape")) fd
  d_Kinds_shape : ∃ fd, FunD K "shape" "Kinds.shape" (defArgs s_Kinds_shape) (defBody s_Kinds_shape) (defScope s_Kinds_shape) [] [] (He.fAd K ("Kinds", some "shape")) fd
  d_Kinds_to_shape : ∃ fd, FunD K "to_shape" "Kinds.to_shape" (defArgs s_Kinds_to_shape) (defBody s_Kinds_to_shape) (defScope s_Kinds_to_shape) [] [] (He.fAd K ("Kinds", some "to_shape")) fd
  d_Kinds_from_shape : ∃ fd, FunD K "from_shape" "Kinds.from_shape" (defArgs s_Kinds_from_shape) (defBody s_Kinds_from_shape) (defScope s_Kinds_from_shape) [] [] (He.fAd K ("Kinds", some "from_shape")) fd
  d_Kinds_unlike : ∃ fd, FunD K "unlike" "Kinds.unlike" (defArgs s_Kinds_unlike) (defBody s_Kinds_unlike) (defScope s_Kinds_unlike) [] [] (He.fAd K ("Kinds", some "unlike")) fd
  g_PlaneError : mg "PlaneError" = some (.ref (He.ga K "PlaneError"))
  g_BadKind : mg "BadKind" = some (.ref (He.ga K "BadKind"))
  g_BadField : mg "BadField" = some (.ref (He.ga K "BadField"))
  g_BadShape : mg "BadShape" = some (.ref (He.ga K "BadShape"))
  g_BadRule : mg "BadRule" = some (.ref (He.ga K "BadRule"))
  g_Lossy : mg "Lossy" = some (.ref (He.ga K "Lossy"))
  g_Way : mg "Way" = some (.ref (He.ga K "Way"))
  g_Kinds : mg "Kinds" = some (.ref (He.ga K "Kinds"))
  n_len : mg "len" = none
  n_int : mg "int" = none
  n_bool : mg "bool" = none
  n_str : mg "str" = none
  n_list : mg "list" = none
  n_tuple : mg "tuple" = none
  n_dict : mg "dict" = none
  n_set : mg "set" = none
  n_range : mg "range" = none
  n_isinstance : mg "isinstance" = none
  n_all : mg "all" = none
  n_sorted : mg "sorted" = none
  n_enumerate : mg "enumerate" = none
  n_repr : mg "repr" = none
  n_ValueError : mg "ValueError" = none
  c_SMALL : ∃ t, mg "SMALL" = some (.str "abcdefghijklmnopqrstuvwxyz" t)
  c_DIGITS : ∃ t, mg "DIGITS" = some (.str "0123456789" t)
  c_MOST_SIGNS_names : ∃ t, mg "MOST_SIGNS_names" = some (.int 10 t)
  c_MOST_MADE : ∃ t, mg "MOST_MADE" = some (.int 22 t)
  c_MOST_REQUIREMENTS : ∃ t, mg "MOST_REQUIREMENTS" = some (.int 8 t)
  c_MOST_LETTERS : ∃ t, mg "MOST_LETTERS" = some (.int 24 t)
  c_MOST_FIELDS : ∃ t, mg "MOST_FIELDS" = some (.int 16 t)
  c_MOST_WORDS : ∃ t, mg "MOST_WORDS" = some (.int 16 t)
  c_MOST_SIGNS_fields : ∃ t, mg "MOST_SIGNS_fields" = some (.int 400 t)
  c_BOUND : ∃ t, mg "BOUND" = some (.int 1000000000 t)
  c_HUB : ∃ t, mg "HUB" = some (.str "hub" t)
  cl_Way : Cls K (He.ga K "Way")
  mk_Way : Mk K (He.ga K "Way") (He.fAd K ("Way", some "__init__"))
  no_Way_of : NoAttr K (He.ga K "Way") "of"
  no_Way_form : NoAttr K (He.ga K "Way") "form"
  no_Way_factor : NoAttr K (He.ga K "Way") "factor"
  no_Way_more : NoAttr K (He.ga K "Way") "more"
  no_Way_words : NoAttr K (He.ga K "Way") "words"
  m_Way_there : Meth K (He.ga K "Way") "there" (He.fAd K ("Way", some "there"))
  m_Way_line : Meth K (He.ga K "Way") "line" (He.fAd K ("Way", some "line"))
  m_Way_renamed : Meth K (He.ga K "Way") "renamed" (He.fAd K ("Way", some "renamed"))
  cl_Kinds : Cls K (He.ga K "Kinds")
  mk_Kinds : Mk K (He.ga K "Kinds") (He.fAd K ("Kinds", some "__init__"))
  no_Kinds_ways : NoAttr K (He.ga K "Kinds") "ways"
  no_Kinds_rows : NoAttr K (He.ga K "Kinds") "rows"
  m_Kinds_check_kind : Meth K (He.ga K "Kinds") "check_kind" (He.fAd K ("Kinds", some "check_kind"))
  m_Kinds_add : Meth K (He.ga K "Kinds") "add" (He.fAd K ("Kinds", some "add"))
  m_Kinds_kinds : Meth K (He.ga K "Kinds") "kinds" (He.fAd K ("Kinds", some "kinds"))
  m_Kinds_fields : Meth K (He.ga K "Kinds") "fields" (He.fAd K ("Kinds", some "fields"))
  m_Kinds_status_fields : Meth K (He.ga K "Kinds") "status_fields" (He.fAd K ("Kinds", some "status_fields"))
  m_Kinds_table_of : Meth K (He.ga K "Kinds") "table_of" (He.fAd K ("Kinds", some "table_of"))
  m_Kinds_filled : Meth K (He.ga K "Kinds") "filled" (He.fAd K ("Kinds", some "filled"))
  m_Kinds_filled_status : Meth K (He.ga K "Kinds") "filled_status" (He.fAd K ("Kinds", some "filled_status"))
  m_Kinds_check_some : Meth K (He.ga K "Kinds") "check_some" (He.fAd K ("Kinds", some "check_some"))
  m_Kinds_check : Meth K (He.ga K "Kinds") "check" (He.fAd K ("Kinds", some "check"))
  m_Kinds_check_status : Meth K (He.ga K "Kinds") "check_status" (He.fAd K ("Kinds", some "check_status"))
  m_Kinds_check_shape : Meth K (He.ga K "Kinds") "check_shape" (He.fAd K ("Kinds", some "check_shape"))
  m_Kinds_shape : Meth K (He.ga K "Kinds") "shape" (He.fAd K ("Kinds", some "shape"))
  m_Kinds_to_shape : Meth K (He.ga K "Kinds") "to_shape" (He.fAd K ("Kinds", some "to_shape"))
  m_Kinds_from_shape : Meth K (He.ga K "Kinds") "from_shape" (He.fAd K ("Kinds", some "from_shape"))
  m_Kinds_unlike : Meth K (He.ga K "Kinds") "unlike" (He.fAd K ("Kinds", some "unlike"))
  g_HIGHEST : mg "HIGHEST" = some (.ref (He.ga K "HIGHEST"))
  g_NAME : mg "NAME" = some (.ref (He.ga K "NAME"))
  g_LABEL : mg "LABEL" = some (.ref (He.ga K "LABEL"))
  g_TEXT : mg "TEXT" = some (.ref (He.ga K "TEXT"))
  g_SELECTOR : mg "SELECTOR" = some (.ref (He.ga K "SELECTOR"))
  g_PHASES : mg "PHASES" = some (.ref (He.ga K "PHASES"))
  g_COUNT : mg "COUNT" = some (.ref (He.ga K "COUNT"))
  g_TWELVE : mg "TWELVE" = some (.ref (He.ga K "TWELVE"))
  g_AMOUNT : mg "AMOUNT" = some (.ref (He.ga K "AMOUNT"))
  g_TEMPLATE : mg "TEMPLATE" = some (.ref (He.ga K "TEMPLATE"))
  g_LONG : mg "LONG" = some (.ref (He.ga K "LONG"))
  d_PlaneError___init__ : ∃ fd, FunD K "__init__" "PlaneError.__init__" (defArgs s_PEinit) (defBody s_PEinit) (defScope s_PEinit) [.str "invalid"] [] (He.fAd K ("PlaneError", some "__init__")) fd
  d_BadKind___init__ : ∃ fd, FunD K "__init__" "BadKind.__init__" (defArgs s_BadKindI) (defBody s_BadKindI) (defScope s_BadKindI) [] [] (He.fAd K ("BadKind", some "__init__")) fd
  d_BadField___init__ : ∃ fd, FunD K "__init__" "BadField.__init__" (defArgs s_BadFieldI) (defBody s_BadFieldI) (defScope s_BadFieldI) [] [] (He.fAd K ("BadField", some "__init__")) fd
  d_BadShape___init__ : ∃ fd, FunD K "__init__" "BadShape.__init__" (defArgs s_BadShapeI) (defBody s_BadShapeI) (defScope s_BadShapeI) [] [] (He.fAd K ("BadShape", some "__init__")) fd
  d_BadRule___init__ : ∃ fd, FunD K "__init__" "BadRule.__init__" (defArgs s_BadRuleI) (defBody s_BadRuleI) (defScope s_BadRuleI) [] [] (He.fAd K ("BadRule", some "__init__")) fd
  d_Lossy___init__ : ∃ fd, FunD K "__init__" "Lossy.__init__" (defArgs s_LossyI) (defBody s_LossyI) (defScope s_LossyI) [] [] (He.fAd K ("Lossy", some "__init__")) fd
  ex : exB K = true
  kd_HIGHEST : ∃ es n, KDict K w (He.ga K "HIGHEST") es n
theorem bi__wall {K : PySem.W.Frag} {fd : FuncData} (F : FnP K "_wall" s__wall [] fd) : Binds K fd ps__wall [] := F.bindsN (fun _ _ _ _ _ _ us hl => match us, hl with | [_], _ => rfl)
theorem bi_is_integer {K : PySem.W.Frag} {fd : FuncData} (F : FnP K "is_integer" s_is_integer [] fd) : Binds K fd ps_is_integer [] := F.bindsN (fun _ _ _ _ _ _ us hl => match us, hl with | [_], _ => rfl)
theorem bi_is_user_name {K : PySem.W.Frag} {fd : FuncData} (F : FnP K "is_user_name" s_is_user_name [] fd) : Binds K fd ps_is_user_name [] := F.bindsN (fun _ _ _ _ _ _ us hl => match us, hl with | [_], _ => rfl)
theorem bi_number_of {K : PySem.W.Frag} {fd : FuncData} (F : FnP K "number_of" s_number_of [] fd) : Binds K fd ps_number_of [] := F.bindsN (fun _ _ _ _ _ _ us hl => match us, hl with | [_, _], _ => rfl)
theorem bi_part_of {K : PySem.W.Frag} {fd : FuncData} (F : FnP K "part_of" s_part_of [] fd) : Binds K fd ps_part_of [] := F.bindsN (fun _ _ _ _ _ _ us hl => match us, hl with | [_, _], _ => rfl)
theorem bi_apart {K : PySem.W.Frag} {fd : FuncData} (F : FnP K "apart" s_apart [] fd) : Binds K fd ps_apart [] := F.bindsN (fun _ _ _ _ _ _ us hl => match us, hl with | [_], _ => rfl)
theorem bi_is_maker {K : PySem.W.Frag} {fd : FuncData} (F : FnP K "is_maker" s_is_maker [] fd) : Binds K fd ps_is_maker [] := F.bindsN (fun _ _ _ _ _ _ us hl => match us, hl with | [_, _], _ => rfl)
theorem bi_is_name {K : PySem.W.Frag} {fd : FuncData} (F : FnP K "is_name" s_is_name [] fd) : Binds K fd ps_is_name [] := F.bindsN (fun _ _ _ _ _ _ us hl => match us, hl with | [_], _ => rfl)
theorem bi_is_label_value {K : PySem.W.Frag} {fd : FuncData} (F : FnP K "is_label_value" s_is_label_value [] fd) : Binds K fd ps_is_label_value [] := F.bindsN (fun _ _ _ _ _ _ us hl => match us, hl with | [_], _ => rfl)
theorem bi_requirement {K : PySem.W.Frag} {fd : FuncData} (F : FnP K "requirement" s_requirement [] fd) : Binds K fd ps_requirement [] := F.bindsN (fun _ _ _ _ _ _ us hl => match us, hl with | [_], _ => rfl)
theorem bi_rows_of {K : PySem.W.Frag} {fd : FuncData} (F : FnP K "rows_of" s_rows_of [] fd) : Binds K fd ps_rows_of [] := F.bindsN (fun _ _ _ _ _ _ us hl => match us, hl with | [_], _ => rfl)
theorem bi_is_selector {K : PySem.W.Frag} {fd : FuncData} (F : FnP K "is_selector" s_is_selector [] fd) : Binds K fd ps_is_selector [] := F.bindsN (fun _ _ _ _ _ _ us hl => match us, hl with | [_], _ => rfl)
theorem bi_is_bounded {K : PySem.W.Frag} {fd : FuncData} (F : FnP K "is_bounded" s_is_bounded [] fd) : Binds K fd ps_is_bounded [] := F.bindsN (fun _ _ _ _ _ _ us hl => match us, hl with | [_], _ => rfl)
theorem bi_is_sort {K : PySem.W.Frag} {fd : FuncData} (F : FnP K "is_sort" s_is_sort [] fd) : Binds K fd ps_is_sort [] := F.bindsN (fun _ _ _ _ _ _ us hl => match us, hl with | [_], _ => rfl)
theorem bi_is_text {K : PySem.W.Frag} {fd : FuncData} (F : FnP K "is_text" s_is_text [] fd) : Binds K fd ps_is_text [] := F.bindsN (fun _ _ _ _ _ _ us hl => match us, hl with | [_], _ => rfl)
theorem bi_fits {K : PySem.W.Frag} {fd : FuncData} (F : FnP K "fits" s_fits [] fd) : Binds K fd ps_fits [] := F.bindsN (fun _ _ _ _ _ _ us hl => match us, hl with | [_, _], _ => rfl)
theorem bi_is_field {K : PySem.W.Frag} {fd : FuncData} (F : FnP K "is_field" s_is_field [] fd) : Binds K fd ps_is_field [] := F.bindsN (fun _ _ _ _ _ _ us hl => match us, hl with | [_, _], _ => rfl)
theorem bi_check_rows {K : PySem.W.Frag} {fd : FuncData} (F : FnP K "check_rows" s_check_rows [] fd) : Binds K fd ps_check_rows [] := F.bindsN (fun _ _ _ _ _ _ us hl => match us, hl with | [_, _], _ => rfl)
theorem bi_by_name {K : PySem.W.Frag} {fd : FuncData} (F : FnP K "by_name" s_by_name [] fd) : Binds K fd ps_by_name [] := F.bindsN (fun _ _ _ _ _ _ us hl => match us, hl with | [_], _ => rfl)
theorem bi_check_given {K : PySem.W.Frag} {fd : FuncData} (F : FnP K "check_given" s_check_given [] fd) : Binds K fd ps_check_given [] := F.bindsN (fun _ _ _ _ _ _ us hl => match us, hl with | [_, _, _], _ => rfl)
theorem bi_some_value {K : PySem.W.Frag} {fd : FuncData} (F : FnP K "some_value" s_some_value [] fd) : Binds K fd ps_some_value [] := F.bindsN (fun _ _ _ _ _ _ us hl => match us, hl with | [_], _ => rfl)
theorem bi_is_pairs {K : PySem.W.Frag} {fd : FuncData} (F : FnP K "is_pairs" s_is_pairs [] fd) : Binds K fd ps_is_pairs [] := F.bindsN (fun _ _ _ _ _ _ us hl => match us, hl with | [_, _], _ => rfl)
theorem bi_is_rule {K : PySem.W.Frag} {fd : FuncData} (F : FnP K "is_rule" s_is_rule [] fd) : Binds K fd ps_is_rule [] := F.bindsN (fun _ _ _ _ _ _ us hl => match us, hl with | [_, _], _ => rfl)
theorem bi_way_by {K : PySem.W.Frag} {fd : FuncData} (F : FnP K "way_by" s_way_by [] fd) : Binds K fd ps_way_by [] := F.bindsN (fun _ _ _ _ _ _ us hl => match us, hl with | [_, _], _ => rfl)
theorem bi_ways_of {K : PySem.W.Frag} {fd : FuncData} (F : FnP K "ways_of" s_ways_of [] fd) : Binds K fd ps_ways_of [] := F.bindsN (fun _ _ _ _ _ _ us hl => match us, hl with | [_], _ => rfl)
theorem bi_ways_by {K : PySem.W.Frag} {fd : FuncData} (F : FnP K "ways_by" s_ways_by [] fd) : Binds K fd ps_ways_by [] := F.bindsN (fun _ _ _ _ _ _ us hl => match us, hl with | [_, _], _ => rfl)
theorem bi_free {K : PySem.W.Frag} {fd : FuncData} (F : FnP K "free" s_free [] fd) : Binds K fd ps_free [] := F.bindsN (fun _ _ _ _ _ _ us hl => match us, hl with | [_, _, _], _ => rfl)
theorem bi_counts {K : PySem.W.Frag} {fd : FuncData} (F : FnP K "counts" s_counts [] fd) : Binds K fd ps_counts [] := F.bindsN (fun _ _ _ _ _ _ us hl => match us, hl with | [_], _ => rfl)
theorem bi_made {K : PySem.W.Frag} {fd : FuncData} (F : FnP K "made" s_made [.bl true] fd) : ∃ ds, Vals ([.bl true] : List V) ds ∧ Binds K fd ps_made ds := FunD.binds1 F 1 0 (by simp) (by rfl) fun _ _ _ _ _ _ _ us its h1 h2 => match us, its, h1, h2 with | [_], [_], _, _ => ⟨_, rfl, rfl⟩
theorem bi_known_makers {K : PySem.W.Frag} {fd : FuncData} (F : FnP K "known_makers" s_known_makers [] fd) : Binds K fd ps_known_makers [] := F.bindsN (fun _ _ _ _ _ _ us hl => match us, hl with | [], _ => rfl)
theorem bi_known_others {K : PySem.W.Frag} {fd : FuncData} (F : FnP K "known_others" s_known_others [] fd) : Binds K fd ps_known_others [] := F.bindsN (fun _ _ _ _ _ _ us hl => match us, hl with | [], _ => rfl)
theorem bi__law_cell_at {K : PySem.W.Frag} {fd : FuncData} (F : FnP K "_law_cell_at" s__law_cell_at [] fd) : Binds K fd ps__law_cell_at [] := F.bindsN (fun _ _ _ _ _ _ us hl => match us, hl with | [_, _], _ => rfl)
theorem bi__law_source {K : PySem.W.Frag} {fd : FuncData} (F : FnP K "_law_source" s__law_source [] fd) : Binds K fd ps__law_source [] := F.bindsN (fun _ _ _ _ _ _ us hl => match us, hl with | [_], _ => rfl)
theorem bi__law_draw {K : PySem.W.Frag} {fd : FuncData} (F : FnP K "_law_draw" s__law_draw [] fd) : Binds K fd ps__law_draw [] := F.bindsN (fun _ _ _ _ _ _ us hl => match us, hl with | [_, _], _ => rfl)
theorem bi__law_pick {K : PySem.W.Frag} {fd : FuncData} (F : FnP K "_law_pick" s__law_pick [] fd) : Binds K fd ps__law_pick [] := F.bindsN (fun _ _ _ _ _ _ us hl => match us, hl with | [_, _], _ => rfl)
theorem bi__law_made {K : PySem.W.Frag} {fd : FuncData} (F : FnP K "_law_made" s__law_made [] fd) : Binds K fd ps__law_made [] := F.bindsN (fun _ _ _ _ _ _ us hl => match us, hl with | [_], _ => rfl)
theorem bi__law_counts {K : PySem.W.Frag} {fd : FuncData} (F : FnP K "_law_counts" s__law_counts [] fd) : Binds K fd ps__law_counts [] := F.bindsN (fun _ _ _ _ _ _ us hl => match us, hl with | [_], _ => rfl)
theorem bi__law_number {K : PySem.W.Frag} {fd : FuncData} (F : FnP K "_law_number" s__law_number [] fd) : Binds K fd ps__law_number [] := F.bindsN (fun _ _ _ _ _ _ us hl => match us, hl with | [_, _, _, _], _ => rfl)
theorem bi__law_word {K : PySem.W.Frag} {fd : FuncData} (F : FnP K "_law_word" s__law_word [] fd) : Binds K fd ps__law_word [] := F.bindsN (fun _ _ _ _ _ _ us hl => match us, hl with | [_, _], _ => rfl)
theorem bi__law_makers {K : PySem.W.Frag} {fd : FuncData} (F : FnP K "_law_makers" s__law_makers [] fd) : Binds K fd ps__law_makers [] := F.bindsN (fun _ _ _ _ _ _ us hl => match us, hl with | [], _ => rfl)
theorem bi__law_others {K : PySem.W.Frag} {fd : FuncData} (F : FnP K "_law_others" s__law_others [] fd) : Binds K fd ps__law_others [] := F.bindsN (fun _ _ _ _ _ _ us hl => match us, hl with | [], _ => rfl)
theorem bi__law_right {K : PySem.W.Frag} {fd : FuncData} (F : FnP K "_law_right" s__law_right [] fd) : Binds K fd ps__law_right [] := F.bindsN (fun _ _ _ _ _ _ us hl => match us, hl with | [_, _, _], _ => rfl)
theorem bi_law {K : PySem.W.Frag} {fd : FuncData} (F : FnP K "law" s_law [] fd) : Binds K fd ps_law [] := F.bindsN (fun _ _ _ _ _ _ us hl => match us, hl with | [_], _ => rfl)
theorem bi_Way_there {K : PySem.W.Frag} {fd : FuncData} (F : FunD K "there" "Way.there" (defArgs s_Way_there) (defBody s_Way_there) (defScope s_Way_there) [] [] (He.fAd K ("Way", some "there")) fd) : Binds K fd ps_Way_there [] := F.bindsN (fun _ _ _ _ _ _ us hl => match us, hl with | [_, _], _ => rfl)
theorem bi_Way_line {K : PySem.W.Frag} {fd : FuncData} (F : FunD K "line" "Way.line" (defArgs s_Way_line) (defBody s_Way_line) (defScope s_Way_line) [] [] (He.fAd K ("Way", some "line")) fd) : Binds K fd ps_Way_line [] := F.bindsN (fun _ _ _ _ _ _ us hl => match us, hl with | [_, _, _], _ => rfl)
theorem bi_Way_renamed {K : PySem.W.Frag} {fd : FuncData} (F : FunD K "renamed" "Way.renamed" (defArgs s_Way_renamed) (defBody s_Way_renamed) (defScope s_Way_renamed) [] [] (He.fAd K ("Way", some "renamed")) fd) : Binds K fd ps_Way_renamed [] := F.bindsN (fun _ _ _ _ _ _ us hl => match us, hl with | [_, _], _ => rfl)
theorem bi_Kinds___init__ {K : PySem.W.Frag} {fd : FuncData} (F : FunD K "__init__" "Kinds.__init__" (defArgs s_Kinds___init__) (defBody s_Kinds___init__) (defScope s_Kinds___init__) [] [] (He.fAd K ("Kinds", some "__init__")) fd) : Binds K fd ps_Kinds___init__ [] := F.bindsN (fun _ _ _ _ _ _ us hl => match us, hl with | [_], _ => rfl)
theorem bi_Kinds_check_kind {K : PySem.W.Frag} {fd : FuncData} (F : FunD K "check_kind" "Kinds.check_kind" (defArgs s_Kinds_check_kind) (defBody s_Kinds_check_kind) (defScope s_Kinds_check_kind) [] [] (He.fAd K ("Kinds", some "check_kind")) fd) : Binds K fd ps_Kinds_check_kind [] := F.bindsN (fun _ _ _ _ _ _ us hl => match us, hl with | [_, _], _ => rfl)
theorem bi_Kinds_add {K : PySem.W.Frag} {fd : FuncData} (F : FunD K "add" "Kinds.add" (defArgs s_Kinds_add) (defBody s_Kinds_add) (defScope s_Kinds_add) [] [] (He.fAd K ("Kinds", some "add")) fd) : Binds K fd ps_Kinds_add [] := F.bindsN (fun _ _ _ _ _ _ us hl => match us, hl with | [_, _, _, _], _ => rfl)
theorem bi_Kinds_kinds {K : PySem.W.Frag} {fd : FuncData} (F : FunD K "kinds" "Kinds.kinds" (defArgs s_Kinds_kinds) (defBody s_Kinds_kinds) (defScope s_Kinds_kinds) [] [] (He.fAd K ("Kinds", some "kinds")) fd) : Binds K fd ps_Kinds_kinds [] := F.bindsN (fun _ _ _ _ _ _ us hl => match us, hl with | [_], _ => rfl)
theorem bi_Kinds_fields {K : PySem.W.Frag} {fd : FuncData} (F : FunD K "fields" "Kinds.fields" (defArgs s_Kinds_fields) (defBody s_Kinds_fields) (defScope s_Kinds_fields) [] [] (He.fAd K ("Kinds", some "fields")) fd) : Binds K fd ps_Kinds_fields [] := F.bindsN (fun _ _ _ _ _ _ us hl => match us, hl with | [_, _], _ => rfl)
theorem bi_Kinds_status_fields {K : PySem.W.Frag} {fd : FuncData} (F : FunD K "status_fields" "Kinds.status_fields" (defArgs s_Kinds_status_fields) (defBody s_Kinds_status_fields) (defScope s_Kinds_status_fields) [] [] (He.fAd K ("Kinds", some "status_fields")) fd) : Binds K fd ps_Kinds_status_fields [] := F.bindsN (fun _ _ _ _ _ _ us hl => match us, hl with | [_, _], _ => rfl)
theorem bi_Kinds_table_of {K : PySem.W.Frag} {fd : FuncData} (F : FunD K "table_of" "Kinds.table_of" (defArgs s_Kinds_table_of) (defBody s_Kinds_table_of) (defScope s_Kinds_table_of) [] [] (He.fAd K ("Kinds", some "table_of")) fd) : Binds K fd ps_Kinds_table_of [] := F.bindsN (fun _ _ _ _ _ _ us hl => match us, hl with | [_, _, _, _], _ => rfl)
theorem bi_Kinds_filled {K : PySem.W.Frag} {fd : FuncData} (F : FunD K "filled" "Kinds.filled" (defArgs s_Kinds_filled) (defBody s_Kinds_filled) (defScope s_Kinds_filled) [] [] (He.fAd K ("Kinds", some "filled")) fd) : Binds K fd ps_Kinds_filled [] := F.bindsN (fun _ _ _ _ _ _ us hl => match us, hl with | [_, _, _], _ => rfl)
theorem bi_Kinds_filled_status {K : PySem.W.Frag} {fd : FuncData} (F : FunD K "filled_status" "Kinds.filled_status" (defArgs s_Kinds_filled_status) (defBody s_Kinds_filled_status) (defScope s_Kinds_filled_status) [] [] (He.fAd K ("Kinds", some "filled_status")) fd) : Binds K fd ps_Kinds_filled_status [] := F.bindsN (fun _ _ _ _ _ _ us hl => match us, hl with | [_, _, _], _ => rfl)
theorem bi_Kinds_check_some {K : PySem.W.Frag} {fd : FuncData} (F : FunD K "check_some" "Kinds.check_some" (defArgs s_Kinds_check_some) (defBody s_Kinds_check_some) (defScope s_Kinds_check_some) [] [] (He.fAd K ("Kinds", some "check_some")) fd) : Binds K fd ps_Kinds_check_some [] := F.bindsN (fun _ _ _ _ _ _ us hl => match us, hl with | [_, _, _], _ => rfl)
theorem bi_Kinds_check {K : PySem.W.Frag} {fd : FuncData} (F : FunD K "check" "Kinds.check" (defArgs s_Kinds_check) (defBody s_Kinds_check) (defScope s_Kinds_check) [] [] (He.fAd K ("Kinds", some "check")) fd) : Binds K fd ps_Kinds_check [] := F.bindsN (fun _ _ _ _ _ _ us hl => match us, hl with | [_, _, _], _ => rfl)
theorem bi_Kinds_check_status {K : PySem.W.Frag} {fd : FuncData} (F : FunD K "check_status" "Kinds.check_status" (defArgs s_Kinds_check_status) (defBody s_Kinds_check_status) (defScope s_Kinds_check_status) [] [] (He.fAd K ("Kinds", some "check_status")) fd) : Binds K fd ps_Kinds_check_status [] := F.bindsN (fun _ _ _ _ _ _ us hl => match us, hl with | [_, _, _], _ => rfl)
theorem bi_Kinds_check_shape {K : PySem.W.Frag} {fd : FuncData} (F : FunD K "check_shape" "Kinds.check_shape" (defArgs s_Kinds_check_shape) (defBody s_Kinds_check_shape) (defScope s_Kinds_check_shape) [] [] (He.fAd K ("Kinds", some "check_shape")) fd) : Binds K fd ps_Kinds_check_shape [] := F.bindsN (fun _ _ _ _ _ _ us hl => match us, hl with | [_, _, _], _ => rfl)
theorem bi_Kinds_shape {K : PySem.W.Frag} {fd : FuncData} (F : FunD K "shape" "Kinds.shape" (defArgs s_Kinds_shape) (defBody s_Kinds_shape) (defScope s_Kinds_shape) [] [] (He.fAd K ("Kinds", some "shape")) fd) : Binds K fd ps_Kinds_shape [] := F.bindsN (fun _ _ _ _ _ _ us hl => match us, hl with | [_, _, _, _, _], _ => rfl)
theorem bi_Kinds_to_shape {K : PySem.W.Frag} {fd : FuncData} (F : FunD K "to_shape" "Kinds.to_shape" (defArgs s_Kinds_to_shape) (defBody s_Kinds_to_shape) (defScope s_Kinds_to_shape) [] [] (He.fAd K ("Kinds", some "to_shape")) fd) : Binds K fd ps_Kinds_to_shape [] := F.bindsN (fun _ _ _ _ _ _ us hl => match us, hl with | [_, _, _, _], _ => rfl)
theorem bi_Kinds_from_shape {K : PySem.W.Frag} {fd : FuncData} (F : FunD K "from_shape" "Kinds.from_shape" (defArgs s_Kinds_from_shape) (defBody s_Kinds_from_shape) (defScope s_Kinds_from_shape) [] [] (He.fAd K ("Kinds", some "from_shape")) fd) : Binds K fd ps_Kinds_from_shape [] := F.bindsN (fun _ _ _ _ _ _ us hl => match us, hl with | [_, _, _, _], _ => rfl)
theorem bi_Kinds_unlike {K : PySem.W.Frag} {fd : FuncData} (F : FunD K "unlike" "Kinds.unlike" (defArgs s_Kinds_unlike) (defBody s_Kinds_unlike) (defScope s_Kinds_unlike) [] [] (He.fAd K ("Kinds", some "unlike")) fd) : Binds K fd ps_Kinds_unlike [] := F.bindsN (fun _ _ _ _ _ _ us hl => match us, hl with | [_, _, _, _], _ => rfl)
def dd__wall : He.DefD := ⟨("_wall", none), "_wall", "_wall", defArgs s__wall, defBody s__wall, defScope s__wall, [], []⟩
def dd_is_integer : He.DefD := ⟨("is_integer", none), "is_integer", "is_integer", defArgs s_is_integer, defBody s_is_integer, defScope s_is_integer, [], []⟩
def dd_is_user_name : He.DefD := ⟨("is_user_name", none), "is_user_name", "is_user_name", defArgs s_is_user_name, defBody s_is_user_name, defScope s_is_user_name, [], []⟩
def dd_number_of : He.DefD := ⟨("number_of", none), "number_of", "number_of", defArgs s_number_of, defBody s_number_of, defScope s_number_of, [], []⟩
def dd_part_of : He.DefD := ⟨("part_of", none), "part_of", "part_of", defArgs s_part_of, defBody s_part_of, defScope s_part_of, [], []⟩
def dd_apart : He.DefD := ⟨("apart", none), "apart", "apart", defArgs s_apart, defBody s_apart, defScope s_apart, [], []⟩
def dd_is_maker : He.DefD := ⟨("is_maker", none), "is_maker", "is_maker", defArgs s_is_maker, defBody s_is_maker, defScope s_is_maker, [], []⟩
def dd_is_name : He.DefD := ⟨("is_name", none), "is_name", "is_name", defArgs s_is_name, defBody s_is_name, defScope s_is_name, [], []⟩
def dd_is_label_value : He.DefD := ⟨("is_label_value", none), "is_label_value", "is_label_value", defArgs s_is_label_value, defBody s_is_label_value, defScope s_is_label_value, [], []⟩
def dd_requirement : He.DefD := ⟨("requirement", none), "requirement", "requirement", defArgs s_requirement, defBody s_requirement, defScope s_requirement, [], []⟩
def dd_rows_of : He.DefD := ⟨("rows_of", none), "rows_of", "rows_of", defArgs s_rows_of, defBody s_rows_of, defScope s_rows_of, [], []⟩
def dd_is_selector : He.DefD := ⟨("is_selector", none), "is_selector", "is_selector", defArgs s_is_selector, defBody s_is_selector, defScope s_is_selector, [], []⟩
def dd_is_bounded : He.DefD := ⟨("is_bounded", none), "is_bounded", "is_bounded", defArgs s_is_bounded, defBody s_is_bounded, defScope s_is_bounded, [], []⟩
def dd_is_sort : He.DefD := ⟨("is_sort", none), "is_sort", "is_sort", defArgs s_is_sort, defBody s_is_sort, defScope s_is_sort, [], []⟩
def dd_is_text : He.DefD := ⟨("is_text", none), "is_text", "is_text", defArgs s_is_text, defBody s_is_text, defScope s_is_text, [], []⟩
def dd_fits : He.DefD := ⟨("fits", none), "fits", "fits", defArgs s_fits, defBody s_fits, defScope s_fits, [], []⟩
def dd_is_field : He.DefD := ⟨("is_field", none), "is_field", "is_field", defArgs s_is_field, defBody s_is_field, defScope s_is_field, [], []⟩
def dd_check_rows : He.DefD := ⟨("check_rows", none), "check_rows", "check_rows", defArgs s_check_rows, defBody s_check_rows, defScope s_check_rows, [], []⟩
def dd_by_name : He.DefD := ⟨("by_name", none), "by_name", "by_name", defArgs s_by_name, defBody s_by_name, defScope s_by_name, [], []⟩
def dd_check_given : He.DefD := ⟨("check_given", none), "check_given", "check_given", defArgs s_check_given, defBody s_check_given, defScope s_check_given, [], []⟩
def dd_some_value : He.DefD := ⟨("some_value", none), "some_value", "some_value", defArgs s_some_value, defBody s_some_value, defScope s_some_value, [], []⟩
def dd_is_pairs : He.DefD := ⟨("is_pairs", none), "is_pairs", "is_pairs", defArgs s_is_pairs, defBody s_is_pairs, defScope s_is_pairs, [], []⟩
def dd_is_rule : He.DefD := ⟨("is_rule", none), "is_rule", "is_rule", defArgs s_is_rule, defBody s_is_rule, defScope s_is_rule, [], []⟩
def dd_way_by : He.DefD := ⟨("way_by", none), "way_by", "way_by", defArgs s_way_by, defBody s_way_by, defScope s_way_by, [], []⟩
def dd_ways_of : He.DefD := ⟨("ways_of", none), "ways_of", "ways_of", defArgs s_ways_of, defBody s_ways_of, defScope s_ways_of, [], []⟩
def dd_ways_by : He.DefD := ⟨("ways_by", none), "ways_by", "ways_by", defArgs s_ways_by, defBody s_ways_by, defScope s_ways_by, [], []⟩
def dd_free : He.DefD := ⟨("free", none), "free", "free", defArgs s_free, defBody s_free, defScope s_free, [], []⟩
def dd_counts : He.DefD := ⟨("counts", none), "counts", "counts", defArgs s_counts, defBody s_counts, defScope s_counts, [], []⟩
def dd_made : He.DefD := ⟨("made", none), "made", "made", defArgs s_made, defBody s_made, defScope s_made, [.bl true], []⟩
def dd_known_makers : He.DefD := ⟨("known_makers", none), "known_makers", "known_makers", defArgs s_known_makers, defBody s_known_makers, defScope s_known_makers, [], []⟩
def dd_known_others : He.DefD := ⟨("known_others", none), "known_others", "known_others", defArgs s_known_others, defBody s_known_others, defScope s_known_others, [], []⟩
def dd__law_cell_at : He.DefD := ⟨("_law_cell_at", none), "_law_cell_at", "_law_cell_at", defArgs s__law_cell_at, defBody s__law_cell_at, defScope s__law_cell_at, [], []⟩
def dd__law_source : He.DefD := ⟨("_law_source", none), "_law_source", "_law_source", defArgs s__law_source, defBody s__law_source, defScope s__law_source, [], []⟩
def dd__law_draw : He.DefD := ⟨("_law_draw", none), "_law_draw", "_law_draw", defArgs s__law_draw, defBody s__law_draw, defScope s__law_draw, [], []⟩
def dd__law_pick : He.DefD := ⟨("_law_pick", none), "_law_pick", "_law_pick", defArgs s__law_pick, defBody s__law_pick, defScope s__law_pick, [], []⟩
def dd__law_made : He.DefD := ⟨("_law_made", none), "_law_made", "_law_made", defArgs s__law_made, defBody s__law_made, defScope s__law_made, [], []⟩
def dd__law_counts : He.DefD := ⟨("_law_counts", none), "_law_counts", "_law_counts", defArgs s__law_counts, defBody s__law_counts, defScope s__law_counts, [], []⟩
def dd__law_number : He.DefD := ⟨("_law_number", none), "_law_number", "_law_number", defArgs s__law_number, defBody s__law_number, defScope s__law_number, [], []⟩
def dd__law_word : He.DefD := ⟨("_law_word", none), "_law_word", "_law_word", defArgs s__law_word, defBody s__law_word, defScope s__law_word, [], []⟩
def dd__law_makers : He.DefD := ⟨("_law_makers", none), "_law_makers", "_law_makers", defArgs s__law_makers, defBody s__law_makers, defScope s__law_makers, [], []⟩
def dd__law_others : He.DefD := ⟨("_law_others", none), "_law_others", "_law_others", defArgs s__law_others, defBody s__law_others, defScope s__law_others, [], []⟩
def dd__law_right : He.DefD := ⟨("_law_right", none), "_law_right", "_law_right", defArgs s__law_right, defBody s__law_right, defScope s__law_right, [], []⟩
def dd_law : He.DefD := ⟨("law", none), "law", "law", defArgs s_law, defBody s_law, defScope s_law, [], []⟩
def dd_PlaneError___init__ : He.DefD := ⟨("PlaneError", some "__init__"), "__init__", "PlaneError.__init__", defArgs s_PEinit, defBody s_PEinit, defScope s_PEinit, [.str "invalid"], []⟩
def dd_BadKind___init__ : He.DefD := ⟨("BadKind", some "__init__"), "__init__", "BadKind.__init__", defArgs s_BadKindI, defBody s_BadKindI, defScope s_BadKindI, [], []⟩
def dd_BadField___init__ : He.DefD := ⟨("BadField", some "__init__"), "__init__", "BadField.__init__", defArgs s_BadFieldI, defBody s_BadFieldI, defScope s_BadFieldI, [], []⟩
def dd_BadShape___init__ : He.DefD := ⟨("BadShape", some "__init__"), "__init__", "BadShape.__init__", defArgs s_BadShapeI, defBody s_BadShapeI, defScope s_BadShapeI, [], []⟩
def dd_BadRule___init__ : He.DefD := ⟨("BadRule", some "__init__"), "__init__", "BadRule.__init__", defArgs s_BadRuleI, defBody s_BadRuleI, defScope s_BadRuleI, [], []⟩
def dd_Lossy___init__ : He.DefD := ⟨("Lossy", some "__init__"), "__init__", "Lossy.__init__", defArgs s_LossyI, defBody s_LossyI, defScope s_LossyI, [], []⟩
def dd_Way___init__ : He.DefD := ⟨("Way", some "__init__"), "__init__", "Way.__init__", defArgs s_Way___init__, defBody s_Way___init__, defScope s_Way___init__, [.int 1, .int 0, .non], []⟩
def dd_Way_there : He.DefD := ⟨("Way", some "there"), "there", "Way.there", defArgs s_Way_there, defBody s_Way_there, defScope s_Way_there, [], []⟩
def dd_Way_line : He.DefD := ⟨("Way", some "line"), "line", "Way.line", defArgs s_Way_line, defBody s_Way_line, defScope s_Way_line, [], []⟩
def dd_Way_renamed : He.DefD := ⟨("Way", some "renamed"), "renamed", "Way.renamed", defArgs s_Way_renamed, defBody s_Way_renamed, defScope s_Way_renamed, [], []⟩
def dd_Kinds___init__ : He.DefD := ⟨("Kinds", some "__init__"), "__init__", "Kinds.__init__", defArgs s_Kinds___init__, defBody s_Kinds___init__, defScope s_Kinds___init__, [], []⟩
def dd_Kinds_check_kind : He.DefD := ⟨("Kinds", some "check_kind"), "check_kind", "Kinds.check_kind", defArgs s_Kinds_check_kind, defBody s_Kinds_check_kind, defScope s_Kinds_check_kind, [], []⟩
def dd_Kinds_add : He.DefD := ⟨("Kinds", some "add"), "add", "Kinds.add", defArgs s_Kinds_add, defBody s_Kinds_add, defScope s_Kinds_add, [], []⟩
def dd_Kinds_kinds : He.DefD := ⟨("Kinds", some "kinds"), "kinds", "Kinds.kinds", defArgs s_Kinds_kinds, defBody s_Kinds_kinds, defScope s_Kinds_kinds, [], []⟩
def dd_Kinds_fields : He.DefD := ⟨("Kinds", some "fields"), "fields", "Kinds.fields", defArgs s_Kinds_fields, defBody s_Kinds_fields, defScope s_Kinds_fields, [], []⟩
def dd_Kinds_status_fields : He.DefD := ⟨("Kinds", some "status_fields"), "status_fields", "Kinds.status_fields", defArgs s_Kinds_status_fields, defBody s_Kinds_status_fields, defScope s_Kinds_status_fields, [], []⟩
def dd_Kinds_table_of : He.DefD := ⟨("Kinds", some "table_of"), "table_of", "Kinds.table_of", defArgs s_Kinds_table_of, defBody s_Kinds_table_of, defScope s_Kinds_table_of, [], []⟩
def dd_Kinds_filled : He.DefD := ⟨("Kinds", some "filled"), "filled", "Kinds.filled", defArgs s_Kinds_filled, defBody s_Kinds_filled, defScope s_Kinds_filled, [], []⟩
def dd_Kinds_filled_status : He.DefD := ⟨("Kinds", some "filled_status"), "filled_status", "Kinds.filled_status", defArgs s_Kinds_filled_status, defBody s_Kinds_filled_status, defScope s_Kinds_filled_status, [], []⟩
def dd_Kinds_check_some : He.DefD := ⟨("Kinds", some "check_some"), "check_some", "Kinds.check_some", defArgs s_Kinds_check_some, defBody s_Kinds_check_some, defScope s_Kinds_check_some, [], []⟩
def dd_Kinds_check : He.DefD := ⟨("Kinds", some "check"), "check", "Kinds.check", defArgs s_Kinds_check, defBody s_Kinds_check, defScope s_Kinds_check, [], []⟩
def dd_Kinds_check_status : He.DefD := ⟨("Kinds", some "check_status"), "check_status", "Kinds.check_status", defArgs s_Kinds_check_status, defBody s_Kinds_check_status, defScope s_Kinds_check_status, [], []⟩
def dd_Kinds_check_shape : He.DefD := ⟨("Kinds", some "check_shape"), "check_shape", "Kinds.check_shape", defArgs s_Kinds_check_shape, defBody s_Kinds_check_shape, defScope s_Kinds_check_shape, [], []⟩
def dd_Kinds_shape : He.DefD := ⟨("Kinds", some "shape"), "shape", "Kinds.shape", defArgs s_Kinds_shape, defBody s_Kinds_shape, defScope s_Kinds_shape, [], []⟩
def dd_Kinds_to_shape : He.DefD := ⟨("Kinds", some "to_shape"), "to_shape", "Kinds.to_shape", defArgs s_Kinds_to_shape, defBody s_Kinds_to_shape, defScope s_Kinds_to_shape, [], []⟩
def dd_Kinds_from_shape : He.DefD := ⟨("Kinds", some "from_shape"), "from_shape", "Kinds.from_shape", defArgs s_Kinds_from_shape, defBody s_Kinds_from_shape, defScope s_Kinds_from_shape, [], []⟩
def dd_Kinds_unlike : He.DefD := ⟨("Kinds", some "unlike"), "unlike", "Kinds.unlike", defArgs s_Kinds_unlike, defBody s_Kinds_unlike, defScope s_Kinds_unlike, [], []⟩
def fn : List He.DefD := [dd__wall, dd_is_integer, dd_is_user_name, dd_number_of, dd_part_of, dd_apart, dd_is_maker, dd_is_name, dd_is_label_value, dd_requirement, dd_rows_of, dd_is_selector, dd_is_bounded, dd_is_sort, dd_is_text, dd_fits, dd_is_field, dd_check_rows, dd_by_name, dd_check_given, dd_some_value, dd_is_pairs, dd_is_rule, dd_way_by, dd_ways_of, dd_ways_by, dd_free, dd_counts, dd_made, dd_known_makers, dd_known_others, dd__law_cell_at, dd__law_source, dd__law_draw, dd__law_pick, dd__law_made, dd__law_counts, dd__law_number, dd__law_word, dd__law_makers, dd__law_others, dd__law_right, dd_law, dd_PlaneError___init__, dd_BadKind___init__, dd_BadField___init__, dd_BadShape___init__, dd_BadRule___init__, dd_Lossy___init__, dd_Way___init__, dd_Way_there, dd_Way_line, dd_Way_renamed, dd_Kinds___init__, dd_Kinds_check_kind, dd_Kinds_add, dd_Kinds_kinds, dd_Kinds_fields, dd_Kinds_status_fields, dd_Kinds_table_of, dd_Kinds_filled, dd_Kinds_filled_status, dd_Kinds_check_some, dd_Kinds_check, dd_Kinds_check_status, dd_Kinds_check_shape, dd_Kinds_shape, dd_Kinds_to_shape, dd_Kinds_from_shape, dd_Kinds_unlike]
def fa : List He.Fa := [.glo "_wall", .glo "is_integer", .glo "is_user_name", .glo "number_of", .glo "part_of", .glo "apart", .glo "is_maker", .glo "is_name", .glo "is_label_value", .glo "requirement", .glo "rows_of", .glo "is_selector", .glo "is_bounded", .glo "is_sort", .glo "is_text", .glo "fits", .glo "is_field", .glo "check_rows", .glo "by_name", .glo "check_given", .glo "some_value", .glo "is_pairs", .glo "is_rule", .glo "way_by", .glo "ways_of", .glo "ways_by", .glo "free", .glo "counts", .glo "made", .glo "known_makers", .glo "known_others", .glo "_law_cell_at", .glo "_law_source", .glo "_law_draw", .glo "_law_pick", .glo "_law_made", .glo "_law_counts", .glo "_law_number", .glo "_law_word", .glo "_law_makers", .glo "_law_others", .glo "_law_right", .glo "law", .glo "PlaneError", .glo "BadKind", .glo "BadField", .glo "BadShape", .glo "BadRule", .glo "Lossy", .glo "Way", .glo "Kinds", .free "len", .free "int", .free "bool", .free "str", .free "list", .free "tuple", .free "dict", .free "set", .free "range", .free "isinstance", .free "all", .free "sorted", .free "enumerate", .free "repr", .free "ValueError", .str "SMALL" "abcdefghijklmnopqrstuvwxyz", .str "DIGITS" "0123456789", .int "MOST_SIGNS_names" 10, .int "MOST_MADE" 22, .int "MOST_REQUIREMENTS" 8, .int "MOST_LETTERS" 24, .int "MOST_FIELDS" 16, .int "MOST_WORDS" 16, .int "MOST_SIGNS_fields" 400, .int "BOUND" 1000000000, .str "HUB" "hub", .cls "Way", .mkr "Way", .noat "Way" "of", .noat "Way" "form", .noat "Way" "factor", .noat "Way" "more", .noat "Way" "words", .meth "Way" "there", .meth "Way" "line", .meth "Way" "renamed", .cls "Kinds", .mkr "Kinds", .noat "Kinds" "ways", .noat "Kinds" "rows", .meth "Kinds" "check_kind", .meth "Kinds" "add", .meth "Kinds" "kinds", .meth "Kinds" "fields", .meth "Kinds" "status_fields", .meth "Kinds" "table_of", .meth "Kinds" "filled", .meth "Kinds" "filled_status", .meth "Kinds" "check_some", .meth "Kinds" "check", .meth "Kinds" "check_status", .meth "Kinds" "check_shape", .meth "Kinds" "shape", .meth "Kinds" "to_shape", .meth "Kinds" "from_shape", .meth "Kinds" "unlike", .glo "HIGHEST", .glo "NAME", .glo "LABEL", .glo "TEXT", .glo "SELECTOR", .glo "PHASES", .glo "COUNT", .glo "TWELVE", .glo "AMOUNT", .glo "TEMPLATE", .glo "LONG"]
def tf : List He.Defn := [("_law_right", none)]
def ts : List He.Tab := [((fun K => He.ga K "HIGHEST"), ["s", "j", "r"])]
abbrev R : PySem.W.OpenRow := PySem.W.OpenLaw.row PySem.Challenge.rw_controlplane_k08_known_kinds
abbrev hk : PySem.W.Hook := hookY fa fn ts tf exB
def ob (s : PySem.W.SharedT) : He.AlX := obsY fa fn ts tf exB (HandSHeadRun.getT s)
theorem ob_eq (s : PySem.W.SharedT) : ob s = hk.obs s.abs := obsY_eq (HandSHeadRun.getT_eq s)
theorem run_false (w : World) : HandSHeadRun.RunEq R (PySem.W.view R.prog [79]) hk ob 6000 [("__name__" : PySem.Str), ("PlaneError" : PySem.Str), ("BadKind" : PySem.Str), ("BadField" : PySem.Str), ("BadShape" : PySem.Str), ("BadRule" : PySem.Str), ("Lossy" : PySem.Str), ("Way" : PySem.Str), ("Kinds" : PySem.Str), ("_wall" : PySem.Str), ("is_integer" : PySem.Str), ("is_user_name" : PySem.Str), ("number_of" : PySem.Str), ("part_of" : PySem.Str), ("apart" : PySem.Str), ("is_maker" : PySem.Str), ("is_name" : PySem.Str), ("is_label_value" : PySem.Str), ("requirement" : PySem.Str), ("rows_of" : PySem.Str), ("is_selector" : PySem.Str), ("is_bounded" : PySem.Str), ("is_sort" : PySem.Str), ("is_text" : PySem.Str), ("fits" : PySem.Str), ("is_field" : PySem.Str), ("check_rows" : PySem.Str), ("by_name" : PySem.Str), ("check_given" : PySem.Str), ("some_value" : PySem.Str), ("is_pairs" : PySem.Str), ("is_rule" : PySem.Str), ("way_by" : PySem.Str), ("ways_of" : PySem.Str), ("ways_by" : PySem.Str), ("free" : PySem.Str), ("counts" : PySem.Str), ("made" : PySem.Str), ("known_makers" : PySem.Str), ("known_others" : PySem.Str), ("_law_cell_at" : PySem.Str), ("_law_source" : PySem.Str), ("_law_draw" : PySem.Str), ("_law_pick" : PySem.Str), ("_law_made" : PySem.Str), ("_law_counts" : PySem.Str), ("_law_number" : PySem.Str), ("_law_word" : PySem.Str), ("_law_makers" : PySem.Str), ("_law_others" : PySem.Str), ("_law_right" : PySem.Str), ("SMALL" : PySem.Str), ("DIGITS" : PySem.Str), ("MOST_SIGNS_names" : PySem.Str), ("MOST_MADE" : PySem.Str), ("HIGHEST" : PySem.Str), ("MOST_REQUIREMENTS" : PySem.Str), ("MOST_LETTERS" : PySem.Str), ("MOST_FIELDS" : PySem.Str), ("MOST_WORDS" : PySem.Str), ("MOST_SIGNS_fields" : PySem.Str), ("BOUND" : PySem.Str), ("NAME" : PySem.Str), ("LABEL" : PySem.Str), ("TEXT" : PySem.Str), ("SELECTOR" : PySem.Str), ("HUB" : PySem.Str), ("PHASES" : PySem.Str), ("COUNT" : PySem.Str), ("TWELVE" : PySem.Str), ("AMOUNT" : PySem.Str), ("TEMPLATE" : PySem.Str), ("LONG" : PySem.Str)] (w.withFollow "special-get-raises" false) := by
  intro os
  kernel_rfl
theorem run_true (w : World) : HandSHeadRun.RunEq R (PySem.W.view R.prog [79]) hk ob 6000 [("__name__" : PySem.Str), ("PlaneError" : PySem.Str), ("BadKind" : PySem.Str), ("BadField" : PySem.Str), ("BadShape" : PySem.Str), ("BadRule" : PySem.Str), ("Lossy" : PySem.Str), ("Way" : PySem.Str), ("Kinds" : PySem.Str), ("_wall" : PySem.Str), ("is_integer" : PySem.Str), ("is_user_name" : PySem.Str), ("number_of" : PySem.Str), ("part_of" : PySem.Str), ("apart" : PySem.Str), ("is_maker" : PySem.Str), ("is_name" : PySem.Str), ("is_label_value" : PySem.Str), ("requirement" : PySem.Str), ("rows_of" : PySem.Str), ("is_selector" : PySem.Str), ("is_bounded" : PySem.Str), ("is_sort" : PySem.Str), ("is_text" : PySem.Str), ("fits" : PySem.Str), ("is_field" : PySem.Str), ("check_rows" : PySem.Str), ("by_name" : PySem.Str), ("check_given" : PySem.Str), ("some_value" : PySem.Str), ("is_pairs" : PySem.Str), ("is_rule" : PySem.Str), ("way_by" : PySem.Str), ("ways_of" : PySem.Str), ("ways_by" : PySem.Str), ("free" : PySem.Str), ("counts" : PySem.Str), ("made" : PySem.Str), ("known_makers" : PySem.Str), ("known_others" : PySem.Str), ("_law_cell_at" : PySem.Str), ("_law_source" : PySem.Str), ("_law_draw" : PySem.Str), ("_law_pick" : PySem.Str), ("_law_made" : PySem.Str), ("_law_counts" : PySem.Str), ("_law_number" : PySem.Str), ("_law_word" : PySem.Str), ("_law_makers" : PySem.Str), ("_law_others" : PySem.Str), ("_law_right" : PySem.Str), ("SMALL" : PySem.Str), ("DIGITS" : PySem.Str), ("MOST_SIGNS_names" : PySem.Str), ("MOST_MADE" : PySem.Str), ("HIGHEST" : PySem.Str), ("MOST_REQUIREMENTS" : PySem.Str), ("MOST_LETTERS" : PySem.Str), ("MOST_FIELDS" : PySem.Str), ("MOST_WORDS" : PySem.Str), ("MOST_SIGNS_fields" : PySem.Str), ("BOUND" : PySem.Str), ("NAME" : PySem.Str), ("LABEL" : PySem.Str), ("TEXT" : PySem.Str), ("SELECTOR" : PySem.Str), ("HUB" : PySem.Str), ("PHASES" : PySem.Str), ("COUNT" : PySem.Str), ("TWELVE" : PySem.Str), ("AMOUNT" : PySem.Str), ("TEMPLATE" : PySem.Str), ("LONG" : PySem.Str)] (w.withFollow "special-get-raises" true) := by
  intro os
  kernel_rfl
theorem run (w : World) : HandSHeadRun.RunEq R (PySem.W.view R.prog [79]) hk ob 6000 [("__name__" : PySem.Str), ("PlaneError" : PySem.Str), ("BadKind" : PySem.Str), ("BadField" : PySem.Str), ("BadShape" : PySem.Str), ("BadRule" : PySem.Str), ("Lossy" : PySem.Str), ("Way" : PySem.Str), ("Kinds" : PySem.Str), ("_wall" : PySem.Str), ("is_integer" : PySem.Str), ("is_user_name" : PySem.Str), ("number_of" : PySem.Str), ("part_of" : PySem.Str), ("apart" : PySem.Str), ("is_maker" : PySem.Str), ("is_name" : PySem.Str), ("is_label_value" : PySem.Str), ("requirement" : PySem.Str), ("rows_of" : PySem.Str), ("is_selector" : PySem.Str), ("is_bounded" : PySem.Str), ("is_sort" : PySem.Str), ("is_text" : PySem.Str), ("fits" : PySem.Str), ("is_field" : PySem.Str), ("check_rows" : PySem.Str), ("by_name" : PySem.Str), ("check_given" : PySem.Str), ("some_value" : PySem.Str), ("is_pairs" : PySem.Str), ("is_rule" : PySem.Str), ("way_by" : PySem.Str), ("ways_of" : PySem.Str), ("ways_by" : PySem.Str), ("free" : PySem.Str), ("counts" : PySem.Str), ("made" : PySem.Str), ("known_makers" : PySem.Str), ("known_others" : PySem.Str), ("_law_cell_at" : PySem.Str), ("_law_source" : PySem.Str), ("_law_draw" : PySem.Str), ("_law_pick" : PySem.Str), ("_law_made" : PySem.Str), ("_law_counts" : PySem.Str), ("_law_number" : PySem.Str), ("_law_word" : PySem.Str), ("_law_makers" : PySem.Str), ("_law_others" : PySem.Str), ("_law_right" : PySem.Str), ("SMALL" : PySem.Str), ("DIGITS" : PySem.Str), ("MOST_SIGNS_names" : PySem.Str), ("MOST_MADE" : PySem.Str), ("HIGHEST" : PySem.Str), ("MOST_REQUIREMENTS" : PySem.Str), ("MOST_LETTERS" : PySem.Str), ("MOST_FIELDS" : PySem.Str), ("MOST_WORDS" : PySem.Str), ("MOST_SIGNS_fields" : PySem.Str), ("BOUND" : PySem.Str), ("NAME" : PySem.Str), ("LABEL" : PySem.Str), ("TEXT" : PySem.Str), ("SELECTOR" : PySem.Str), ("HUB" : PySem.Str), ("PHASES" : PySem.Str), ("COUNT" : PySem.Str), ("TWELVE" : PySem.Str), ("AMOUNT" : PySem.Str), ("TEMPLATE" : PySem.Str), ("LONG" : PySem.Str)] w := PySem.W.byRow2 "special-get-raises" (P := fun w => HandSHeadRun.RunEq R (PySem.W.view R.prog [79]) hk ob 6000 [("__name__" : PySem.Str), ("PlaneError" : PySem.Str), ("BadKind" : PySem.Str), ("BadField" : PySem.Str), ("BadShape" : PySem.Str), ("BadRule" : PySem.Str), ("Lossy" : PySem.Str), ("Way" : PySem.Str), ("Kinds" : PySem.Str), ("_wall" : PySem.Str), ("is_integer" : PySem.Str), ("is_user_name" : PySem.Str), ("number_of" : PySem.Str), ("part_of" : PySem.Str), ("apart" : PySem.Str), ("is_maker" : PySem.Str), ("is_name" : PySem.Str), ("is_label_value" : PySem.Str), ("requirement" : PySem.Str), ("rows_of" : PySem.Str), ("is_selector" : PySem.Str), ("is_bounded" : PySem.Str), ("is_sort" : PySem.Str), ("is_text" : PySem.Str), ("fits" : PySem.Str), ("is_field" : PySem.Str), ("check_rows" : PySem.Str), ("by_name" : PySem.Str), ("check_given" : PySem.Str), ("some_value" : PySem.Str), ("is_pairs" : PySem.Str), ("is_rule" : PySem.Str), ("way_by" : PySem.Str), ("ways_of" : PySem.Str), ("ways_by" : PySem.Str), ("free" : PySem.Str), ("counts" : PySem.Str), ("made" : PySem.Str), ("known_makers" : PySem.Str), ("known_others" : PySem.Str), ("_law_cell_at" : PySem.Str), ("_law_source" : PySem.Str), ("_law_draw" : PySem.Str), ("_law_pick" : PySem.Str), ("_law_made" : PySem.Str), ("_law_counts" : PySem.Str), ("_law_number" : PySem.Str), ("_law_word" : PySem.Str), ("_law_makers" : PySem.Str), ("_law_others" : PySem.Str), ("_law_right" : PySem.Str), ("SMALL" : PySem.Str), ("DIGITS" : PySem.Str), ("MOST_SIGNS_names" : PySem.Str), ("MOST_MADE" : PySem.Str), ("HIGHEST" : PySem.Str), ("MOST_REQUIREMENTS" : PySem.Str), ("MOST_LETTERS" : PySem.Str), ("MOST_FIELDS" : PySem.Str), ("MOST_WORDS" : PySem.Str), ("MOST_SIGNS_fields" : PySem.Str), ("BOUND" : PySem.Str), ("NAME" : PySem.Str), ("LABEL" : PySem.Str), ("TEXT" : PySem.Str), ("SELECTOR" : PySem.Str), ("HUB" : PySem.Str), ("PHASES" : PySem.Str), ("COUNT" : PySem.Str), ("TWELVE" : PySem.Str), ("AMOUNT" : PySem.Str), ("TEMPLATE" : PySem.Str), ("LONG" : PySem.Str)] w) run_false run_true w
end
end Lk
end

section
set_option Elab.async false
set_option linter.all false
set_option maxRecDepth 100000
set_option maxHeartbeats 4000000
namespace Lk
open PySem PySem.Spec PyProof.Rows L2
noncomputable section
variable [Tbl] [Lnk]
/-! ## IV: what a value tells of the heap; the operators -/
abbrev LIM : Nat := 100000
theorem lim_line {n : Nat} (h : n ≤ LIM) : n ≤ sizeLine := Nat.le_trans h (by rw [sizeLine_eq]; decide)
theorem lim_lt {n : Nat} (h : n < LIM) : n < sizeLine := Nat.lt_of_lt_of_le h (by rw [sizeLine_eq]; decide)
theorem lim_llt {n : Nat} (h : n ≤ LIM) : n < sizeLine := Nat.lt_of_le_of_lt h (by rw [sizeLine_eq]; decide)
theorem lim_llt1 {n : Nat} (h : n ≤ LIM) : n + 1 < sizeLine := Nat.lt_of_le_of_lt (Nat.succ_le_succ h) (by rw [sizeLine_eq]; decide)
section
variable {K : PySem.W.Frag} {ι : List Addr} {H H' : Hp} {M : DM}
theorem VRs.length {ds : List DV} {vs : List V} : VRs K ι H ds vs → ds.length = vs.length := fun h => by
  induction ds generalizing vs with
  | nil => cases h; rfl
  | cons d ds ih => cases h with | cons _ t => rw [List.length_cons, List.length_cons, ih t]
theorem VRs.append {xs ys : List V} {as bs : List DV} (h : VRs K ι H as xs) (k : VRs K ι H bs ys) : VRs K ι H (as ++ bs) (xs ++ ys) := by
  induction as generalizing xs with
  | nil => cases h; exact k
  | cons d ds ih => cases h with | cons r t => exact .cons r (ih t)
theorem VRs.get : ∀ {as : List DV} {xs : List V} {i : Nat} {d : DV}, VRs K ι H as xs → as[i]? = some d → ∃ v, xs[i]? = some v ∧ VR K ι H d v
  | [], _, _, _, _, e => by simp at e
  | _ :: _, _, 0, _, .cons r _, e => by simp at e; subst e; exact ⟨_, rfl, r⟩
  | _ :: as, _ :: _, i + 1, d, .cons _ t, e => have q := VRs.get (as := as) (i := i) (d := d) t (by simpa using e); q.elim fun v h => ⟨v, by simpa using h.1, h.2⟩
theorem VRs.nil_iff {xs : List V} {as : List DV} (h : VRs K ι H as xs) : as = [] ↔ xs = [] := by cases h <;> simp
/-- a list that is told as a list -/
def asK (M : DM) : RV → Option (List DV)
  | .lst ds => some ds
  | .v (.obj n) => match M[n]? with
    | some (.lst ds) => some ds
    | _ => none
  | _ => none
theorem asK_ok (R : Rep K ι H M) {r : RV} {v : V} {ds : List DV} (h : RVR K ι H r v) (e : asK M r = some ds) : ∃ a xs, v = .ref a ∧ H a = some (.lst xs) ∧ VRs K ι H ds xs := by
  cases h with
  | lst n g t => cases e; exact ⟨_, _, rfl, g, t⟩
  | dic n g t => cases e
  | v h => cases h with
    | @obj n a hn =>
      simp only [asK] at e
      split at e
      · rename_i ds' hm
        cases e
        obtain ⟨u, g, xs, rfl, t⟩ := R.at_ _ _ _ hn hm
        exact ⟨a, xs, rfl, g, t⟩
      · cases e
    | _ => simp [asK] at e
/-- a list, as it lies -/
def asL (M : DM) : RV → Option (List DV)
  | .lst ds => some ds
  | .v (.obj n) => match M[n]? with
    | some (.lst ds) => some ds
    | _ => none
  | .v (.scr is) => some (is.map .int)
  | _ => none
theorem vrs_ints (is : List Int) : VRs K ι H (is.map .int) (is.map V.int) := by
  induction is with
  | nil => exact .nil
  | cons i is ih => rw [List.map_cons, List.map_cons]; exact .cons (.int i) ih
theorem asL_ok (R : Rep K ι H M) {r : RV} {v : V} {ds : List DV} (h : RVR K ι H r v) (e : asL M r = some ds) : ∃ a xs, v = .ref a ∧ SqL K H a xs ∧ VRs K ι H ds xs := by
  cases h with
  | lst n g t => cases e; exact ⟨_, _, rfl, SqL.of g, t⟩
  | dic n g t => cases e
  | v h => cases h with
    | @obj n a hn =>
      simp only [asL] at e
      split at e
      · rename_i ds' hm
        cases e
        obtain ⟨u, g, xs, rfl, t⟩ := R.at_ _ _ _ hn hm
        exact ⟨a, xs, rfl, SqL.of g, t⟩
      · cases e
    | @scr a is hs =>
      cases e
      exact ⟨a, _, rfl, Lnk.scq R.x hs, vrs_ints is⟩
    | _ => simp [asL] at e
/-- a dict -/
def asD (M : DM) : RV → Option (List (Key × DV))
  | .dic kvs => some kvs
  | .v (.obj n) => match M[n]? with
    | some (.dic _ kvs) => some kvs
    | _ => none
  | _ => none
theorem asD_ok (R : Rep K ι H M) {r : RV} {v : V} {kvs : List (Key × DV)} (h : RVR K ι H r v) (e : asD M r = some kvs) : ∃ a es, v = .ref a ∧ Rd H a (.dK es) ∧ FR K ι H kvs es := by
  cases h with
  | lst n g t => cases e
  | dic n g t => cases e; exact ⟨_, _, rfl, .inl g, t⟩
  | v h => cases h with
    | @obj n a hn =>
      simp only [asD] at e
      split at e
      · rename_i lk ds' hm
        cases e
        obtain ⟨u, g, q⟩ := R.at_ _ _ _ hn hm
        cases lk with
        | false => obtain ⟨es, rfl, t⟩ := q; exact ⟨a, es, rfl, .inl g, t⟩
        | true => obtain ⟨o, es, rfl, t⟩ := q; exact ⟨a, es, rfl, .inr ⟨o, g⟩, t⟩
      · cases e
    | _ => simp [asD] at e
/-- a list or a tuple -/
def asS (M : DM) : RV → Option (List DV)
  | .v (.tup ds) => some ds
  | r => asL M r
theorem asS_ok (R : Rep K ι H M) {r : RV} {v : V} {ds : List DV} (h : RVR K ι H r v) (e : asS M r = some ds) : ∃ a xs, v = .ref a ∧ (SqL K H a xs ∨ SqT K H a xs) ∧ VRs K ι H ds xs := by
  unfold asS at e
  split at e
  · cases e
    cases h with | v h => cases h with | tup q t => exact ⟨_, _, rfl, .inr q, t⟩
  · obtain ⟨a, xs, rfl, g, t⟩ := asL_ok R h e
    exact ⟨a, xs, rfl, .inl (g), t⟩
/-- a flat value -/
def flV : DV → Option V
  | .non => some .non
  | .bl b => some (.bl b)
  | .int i => some (.int i)
  | .str s => some (.str s)
  | _ => none
def flR : RV → Option V
  | .v d => flV d
  | _ => none
theorem flV_ok {d : DV} {v x : V} (h : VR K ι H d v) (e : flV d = some x) : v = x ∧ flatV x = true := by
  cases h <;> simp [flV] at e <;> subst e <;> exact ⟨rfl, rfl⟩
theorem flR_ok {d : RV} {v x : V} (h : RVR K ι H d v) (e : flR d = some x) : v = x ∧ flatV x = true := by
  cases h with
  | v h => exact flV_ok h e
  | lst _ _ _ => cases e
  | dic _ _ _ => cases e
def mapO {α β : Type} (f : α → Option β) : List α → Option (List β)
  | [] => some []
  | a :: as => match f a, mapO f as with
    | some b, some bs => some (b :: bs)
    | _, _ => none
/-- the data that a value is -/
def pd (M : DM) : Nat → DV → Option PyData
  | 0, _ => none
  | n + 1, d => match d with
    | .non => some .none
    | .bl b => some (.bool b)
    | .int i => some (.int i)
    | .str s => some (.str s)
    | .tup ds => (mapO (pd M n) ds).map .tuple
    | .obj k => match M[k]? with
      | some (.lst ds) => (mapO (pd M n) ds).map .list
      | _ => none
    | _ => none
def pdR (M : DM) : RV → Option PyData
  | .v d => pd M 30 d
  | .lst ds => (mapO (pd M 30) ds).map .list
  | .dic _ => none
theorem mapO_dp {f : DV → Option PyData} (hf : ∀ d v p, VR K ι H d v → f d = some p → Dp K H v p) : ∀ {ds : List DV} {vs : List V} {ps : List PyData}, VRs K ι H ds vs → mapO f ds = some ps → DpAll K H vs ps
  | [], _, _, h, e => by cases h; cases e; exact .nil
  | d :: ds, _, _, h, e => by
    cases h with
    | cons r t =>
      unfold mapO at e
      split at e
      · rename_i b bs e1 e2
        cases e
        exact .cons (hf _ _ _ r e1) (mapO_dp hf t e2)
      · cases e
theorem pd_ok (R : Rep K ι H M) : ∀ (n : Nat) (d : DV) (v : V) (p : PyData), VR K ι H d v → pd M n d = some p → Dp K H v p
  | 0, _, _, _, _, e => by cases e
  | n + 1, d, v, p, h, e => by
    cases h with
    | non => cases e; exact .non
    | bl b => cases e; exact .bl b
    | int i => cases e; exact .int i
    | str x => cases e; exact .str x
    | glo x => cases e
    | ty n => cases e
    | exn => cases e
    | scr _ => cases e
    | tup q t =>
      simp only [pd, Option.map_eq_some_iff] at e
      obtain ⟨ps, e, rfl⟩ := e
      exact .tup q (mapO_dp (fun d v p => pd_ok R n d v p) t e)
    | @obj k a hn =>
      simp only [pd] at e
      split at e
      · rename_i ds hm
        simp only [Option.map_eq_some_iff] at e
        obtain ⟨ps, e, rfl⟩ := e
        obtain ⟨u, g, xs, rfl, t⟩ := R.at_ _ _ _ hn hm
        exact .lst (SqL.of g) (mapO_dp (fun d v p => pd_ok R n d v p) t e)
      · cases e
theorem pdR_ok (R : Rep K ι H M) {d : RV} {v : V} {p : PyData} (h : RVR K ι H d v) (e : pdR M d = some p) : Dp K H v p := by
  cases h with
  | v h => exact pd_ok R _ _ _ _ h e
  | lst _ g t =>
    simp only [pdR, Option.map_eq_some_iff] at e
    obtain ⟨ps, e, rfl⟩ := e
    exact .lst (SqL.of g) (mapO_dp (fun d v p => pd_ok R _ d v p) t e)
  | dic _ _ _ => cases e
end
/-! ### two values -/
/-- the reading of an operator that makes r of a and b and changes nothing -/
def rI2 (K : PySem.W.Frag) (g : DM → RV → RV → Option RV) : R2 := fun x y H Q => ∃ ι M a b r, Rep K ι H M ∧ RVR K ι H a x ∧ RVR K ι H b y ∧ g M a b = some r ∧ ∀ v H', Same H H' → RVR K ι H' r v → Fresh H r v → Q v H'
def opAdd (M : DM) (x y : RV) : Option RV := match x, y with
  | .v (.int i), .v (.int j) => some (.v (.int (i + j)))
  | .v (.str a), .v (.str b) => if a.length + b.length ≤ LIM then some (.v (.str (a ++ b))) else none
  | .v (.tup a), .v (.tup b) => if a.length + b.length ≤ LIM ∧ a ≠ [] ∧ b ≠ [] then some (.v (.tup (a ++ b))) else none
  | x, y => match asK M x, asK M y with
    | some a, some b => if a.length + b.length ≤ LIM then some (.lst (a ++ b)) else none
    | _, _ => none
def opSub (_ : DM) (x y : RV) : Option RV := match x, y with
  | .v (.int i), .v (.int j) => some (.v (.int (i - j)))
  | _, _ => none
/-- numbers of at most 2000 bits are multiplied -/
def opMul (_ : DM) (x y : RV) : Option RV := match x, y with
  | .v (.int i), .v (.int j) => if i.natAbs < 2 ^ 64 ∨ j.natAbs < 2 ^ 64 then some (.v (.int (i * j))) else if i.natAbs.log2 < 400000 ∧ j.natAbs.log2 < 400000 then some (.v (.int (i * j))) else none
  | _, _ => none
def opMod (_ : DM) (x y : RV) : Option RV := match x, y with
  | .v (.int i), .v (.int j) => if 0 < j then some (.v (.int (i % j))) else none
  | _, _ => none
def opDiv (_ : DM) (x y : RV) : Option RV := match x, y with
  | .v (.int i), .v (.int j) => if 0 < j ∧ j.natAbs.log2 < 8000 then some (.v (.int (i / j))) else none
  | _, _ => none
section
variable {X : Cx}
theorem vr_int {K : PySem.W.Frag} {ι : List Addr} {H : Hp} {i : Int} {v : V} (h : RVR K ι H (.v (.int i)) v) : v = .int i := by cases h with | v h => cases h; rfl
theorem vr_str {K : PySem.W.Frag} {ι : List Addr} {H : Hp} {i : Str} {v : V} (h : RVR K ι H (.v (.str i)) v) : v = .str i := by cases h with | v h => cases h; rfl
theorem vr_bl {K : PySem.W.Frag} {ι : List Addr} {H : Hp} {i : Bool} {v : V} (h : RVR K ι H (.v (.bl i)) v) : v = .bl i := by cases h with | v h => cases h; rfl
theorem vr_non {K : PySem.W.Frag} {ι : List Addr} {H : Hp} {v : V} (h : RVR K ι H (.v .non) v) : v = .non := by cases h with | v h => cases h; rfl
theorem vr_tup {K : PySem.W.Frag} {ι : List Addr} {H : Hp} {ds : List DV} {v : V} (h : RVR K ι H (.v (.tup ds)) v) : ∃ a xs, v = .ref a ∧ SqT K H a xs ∧ VRs K ι H ds xs := by cases h with | v h => cases h with | tup q t => exact ⟨_, _, rfl, q, t⟩
theorem opAdd_ok : OpR X (binaryOp .Add) (rI2 X.K opAdd) := by
  intro pins s σ H x y v u Q I rx ry ⟨ι, M, a, b, r, R, ha, hb, e, k⟩
  unfold opAdd at e
  split at e
  · cases e; cases vr_int ha; cases vr_int hb
    exact op_add pins s σ H _ _ v u Q I rx ry ⟨_, _, rfl, rfl, k _ H (Same.refl H) (.v (.int _)) trivial⟩
  · split at e
    · rename_i hl
      cases e; cases vr_str ha; cases vr_str hb
      exact op_add_str pins s σ H _ _ v u Q I rx ry ⟨_, _, rfl, rfl, lim_line hl, k _ H (Same.refl H) (.v (.str _)) trivial⟩
    · cases e
  · split at e
    · rename_i hl
      cases e
      obtain ⟨p, xs, rfl, hp, tx⟩ := vr_tup ha
      obtain ⟨q, ys, rfl, hq, ty⟩ := vr_tup hb
      refine op_catT pins s σ H _ _ v u Q I rx ry ⟨p, q, xs, ys, rfl, rfl, hp, hq, fun z => hl.2.1 (tx.nil_iff.mpr z), lim_line (by rw [← tx.length, ← ty.length]; exact hl.1), fun z => absurd (ty.nil_iff.mpr z) hl.2.2, fun _ z hz => ?_⟩
      have A := Aft.same (ι := ι) (Same.new (u := .tup (xs ++ ys)) hz)
      exact k _ _ (Same.new hz) (.v (.tup (SqT.of upd_same) ((tx.aft R A).append (ty.aft R A)))) trivial
    · cases e
  · split at e
    · rename_i as bs ea eb
      split at e
      · rename_i hl
        cases e
        obtain ⟨p, xs, rfl, hp, tx⟩ := asK_ok R ha ea
        obtain ⟨q, ys, rfl, hq, ty⟩ := asK_ok R hb eb
        refine op_cat pins s σ H _ _ v u Q I rx ry ⟨p, q, xs, ys, rfl, rfl, hp, hq, lim_line (by rw [← tx.length, ← ty.length]; exact hl), fun z hz => ?_⟩
        have A := Aft.same (ι := ι) (Same.new (u := .lst (xs ++ ys)) hz)
        exact k _ _ (Same.new hz) (.lst (fun m => R.there m hz) upd_same ((tx.aft R A).append (ty.aft R A))) fun w e => by cases e; exact .inl hz
      · cases e
    · cases e
theorem opSub_ok : OpR X (binaryOp .Sub) (rI2 X.K opSub) := by
  intro pins s σ H x y v u Q I rx ry ⟨ι, M, a, b, r, R, ha, hb, e, k⟩
  unfold opSub at e
  split at e
  · cases e; cases vr_int ha; cases vr_int hb
    exact op_sub pins s σ H _ _ v u Q I rx ry ⟨_, _, rfl, rfl, k _ H (Same.refl H) (.v (.int _)) trivial⟩
  · cases e
theorem log_pow {n a : Nat} (h : n.log2 < a) : n < 2 ^ a := by
  by_cases z : n = 0
  · rw [z]; exact Nat.pos_of_ne_zero (by simp)
  · exact (Nat.log2_lt z).mp h
theorem opMul_ok : OpR X (binaryOp .Mult) (rI2 X.K opMul) := by
  intro pins s σ H x y v u Q I rx ry ⟨ι, M, a, b, r, R, ha, hb, e, k⟩
  unfold opMul at e
  split at e
  · split at e
    · rename_i hl
      cases e; cases vr_int ha; cases vr_int hb
      exact op_mul pins s σ H _ _ v u Q I rx ry ⟨_, _, rfl, rfl, hl.imp (fun z => by constructor <;> omega) (fun z => by constructor <;> omega), k _ H (Same.refl H) (.v (.int _)) trivial⟩
    split at e
    · rename_i hl
      cases e; cases vr_int ha; cases vr_int hb
      exact op_mulW pins s σ H _ _ v u Q I rx ry ⟨_, _, rfl, rfl, wide_mul (log_pow hl.1) (log_pow hl.2) (by decide) (by decide) (by decide), k _ H (Same.refl H) (.v (.int _)) trivial⟩
    · cases e
  · cases e
theorem opMod_ok : OpR X (binaryOp .Mod) (rI2 X.K opMod) := by
  intro pins s σ H x y v u Q I rx ry ⟨ι, M, a, b, r, R, ha, hb, e, k⟩
  unfold opMod at e
  split at e
  · split at e
    · rename_i hl
      cases e; cases vr_int ha; cases vr_int hb
      exact op_mod pins s σ H _ _ v u Q I rx ry ⟨_, _, rfl, rfl, hl, k _ H (Same.refl H) (.v (.int _)) trivial⟩
    · cases e
  · cases e
theorem opDiv_ok : OpR X (binaryOp .FloorDiv) (rI2 X.K opDiv) := by
  intro pins s σ H x y v u Q I rx ry ⟨ι, M, a, b, r, R, ha, hb, e, k⟩
  unfold opDiv at e
  split at e
  · split at e
    · rename_i hl
      cases e; cases vr_int ha; cases vr_int hb
      exact op_fdivW pins s σ H _ _ v u Q I rx ry ⟨_, _, rfl, rfl, wide_div hl.1 (log_pow hl.2) (by decide) (by decide), k _ H (Same.refl H) (.v (.int _)) trivial⟩
    · cases e
  · cases e
end

end
end Lk
end

section
set_option Elab.async false
set_option linter.all false
set_option maxRecDepth 100000
set_option maxHeartbeats 4000000
namespace Lk
open PySem PySem.Spec PyProof.Rows L2
noncomputable section
variable [Tbl] [Lnk]
/-! ## IV: comparisons -/
def rI2b (K : PySem.W.Frag) (g : DM → RV → RV → Option Bool) : R2 := fun x y H Q => ∃ ι M a b r, Rep K ι H M ∧ RVR K ι H a x ∧ RVR K ι H b y ∧ g M a b = some r ∧ Q (.bl r) H
def keyOf : RV → Option Key
  | .v (.int i) => some (.inl i)
  | .v (.str s) => some (.inr s)
  | _ => none
theorem keyOf_ok {K : PySem.W.Frag} {ι : List Addr} {H : Hp} {r : RV} {v : V} {k : Key} (h : RVR K ι H r v) (e : keyOf r = some k) : v = kV k := by
  unfold keyOf at e
  split at e
  · cases e; exact vr_int h
  · cases e; exact vr_str h
  · cases e
def valD {κ : Type} [DecidableEq κ] : List (κ × DV) → κ → Option DV
  | [], _ => none
  | p :: r, k => if p.1 = k then some p.2 else valD r k
theorem valD_ok {κ : Type} [DecidableEq κ] {K : PySem.W.Frag} {ι : List Addr} {H : Hp} {kvs : List (κ × DV)} {es : List (κ × V)} (h : FR K ι H kvs es) (k : κ) : match valD kvs k with
    | some d => ∃ v, valV es k = some v ∧ VR K ι H d v
    | none => valV es k = none := by
  induction h with
  | nil => exact valV_nil
  | @cons p q ps qs h t ih =>
    unfold valD
    by_cases e : p.1 = k
    · rw [if_pos e]; exact ⟨q.2, valV_pos (h.1.symm.trans e), h.2⟩
    · rw [if_neg e]
      have e' : ¬ q.1 = k := fun z => e (h.1.trans z)
      cases hv : valD ps k with
      | some d => rw [hv] at ih; obtain ⟨v, h1, h2⟩ := ih; exact ⟨v, (valV_neg e').trans h1, h2⟩
      | none => rw [hv] at ih; exact (valV_neg e').trans ih
theorem valD_some {κ : Type} [DecidableEq κ] {K : PySem.W.Frag} {ι : List Addr} {H : Hp} {kvs : List (κ × DV)} {es : List (κ × V)} (h : FR K ι H kvs es) {k : κ} {d : DV} (e : valD kvs k = some d) : ∃ v, valV es k = some v ∧ VR K ι H d v := by
  have q := valD_ok h k; rw [e] at q; exact q
theorem valD_is {κ : Type} [DecidableEq κ] {K : PySem.W.Frag} {ι : List Addr} {H : Hp} {kvs : List (κ × DV)} {es : List (κ × V)} (h : FR K ι H kvs es) (k : κ) : (valV es k).isSome = (valD kvs k).isSome := by
  have q := valD_ok h k
  cases e : valD kvs k with
  | some d => rw [e] at q; obtain ⟨v, h1, _⟩ := q; rw [h1]; rfl
  | none => rw [e] at q; rw [q]; rfl
theorem FR.length {κ : Type} {K : PySem.W.Frag} {ι : List Addr} {H : Hp} {kvs : List (κ × DV)} {es : List (κ × V)} (h : FR K ι H kvs es) : kvs.length = es.length := Paired.length h
theorem dget_rd {H : Hp} {a : Addr} {es : List (Key × V)} (h : Rd H a (.dK es)) (k : Key) : DGet H a (kV k) (valV es k) := .inl ⟨es, k, h, rfl, rfl⟩
/-- two scalars compared -/
def vEq : V → V → Bool
  | .str a, .str b => strEq a b
  | a, b => decide (a = b)
theorem vEq_eq (a b : V) : vEq a b = decide (a = b) := by
  unfold vEq
  split
  · rw [strEq_eq]; simp
  · rfl
/-- == -/
def opEq (M : DM) (x y : RV) : Option Bool := match flR x, flR y with
  | some a, some b => if scal a b = true then some (vEq a b) else match pdR M x, pdR M y with
    | some d, some e => if SeqAt.shaped d = true ∧ SeqAt.shaped e = true then some (PyData.eqv d e) else none
    | _, _ => none
  | _, _ => match pdR M x, pdR M y with
    | some d, some e => if SeqAt.shaped d = true ∧ SeqAt.shaped e = true then some (PyData.eqv d e) else none
    | _, _ => none
def opIs (_ : DM) (x y : RV) : Option Bool := match x, y with
  | .v .non, .v .non => some true
  | .v (.bl a), .v (.bl b) => some (decide (a = b))
  | .v (.tup _), .v .non => some false
  | .v (.obj _), .v .non => some false
  | .v (.bl _), .v .non => some false
  | .v (.int _), .v .non => some false
  | .v (.str _), .v .non => some false
  | .v (.glo _), .v .non => some false
  | .lst _, .v .non => some false
  | .dic _, .v .non => some false
  | _, _ => none
/-- one sign among the signs of a text, or a text in a text -/
def strIn (i j : Str) : Bool := match i.cps.toList with
  | [c] => decide (c ∈ j.cps.toList)
  | _ => !(Builtin.Str.occurrences j i 0 j.length 1).isEmpty
def opIn (M : DM) (x y : RV) : Option Bool := match x, y with
  | .v (.str i), .v (.str j) => some (strIn i j)
  | x, y => match asS M y with
    | some ds => match flR x, mapO flV ds with
      | some a, some bs => some (inV a bs)
      | _, _ => match pdR M x, pdR M y with
        | some d, some (.list es) => if SeqAt.shaped d = true ∧ SeqAt.shaped (.list es) = true then some (es.any fun z => PyData.eqv z d) else none
        | some d, some (.tuple es) => if SeqAt.shaped d = true ∧ SeqAt.shaped (.tuple es) = true then some (es.any fun z => PyData.eqv z d) else none
        | _, _ => none
    | none => match asD M y, keyOf x with
      | some kvs, some k => some (valD kvs k).isSome
      | _, _ => none
def opLt (_ : DM) (x y : RV) : Option Bool := match x, y with
  | .v (.int i), .v (.int j) => some (decide (i < j))
  | .v (.str i), .v (.str j) => some (decide (i.cps.toList < j.cps.toList))
  | _, _ => none
def opLe (_ : DM) (x y : RV) : Option Bool := match x, y with
  | .v (.int i), .v (.int j) => some (decide (i ≤ j))
  | .v (.str i), .v (.str j) => some (!decide (j.cps.toList < i.cps.toList))
  | _, _ => none
def opCmp (op : CmpOp) (M : DM) (x y : RV) : Option Bool := match op with
  | .Eq => opEq M x y
  | .NotEq => (opEq M x y).map (!·)
  | .Lt => opLt M x y
  | .LtE => opLe M x y
  | .Gt => opLt M y x
  | .GtE => opLe M y x
  | .Is => opIs M x y
  | .IsNot => (opIs M x y).map (!·)
  | .In => opIn M x y
  | .NotIn => (opIn M x y).map (!·)
section
variable {X : Cx}
theorem opEq_ok (hu : X.A.units + 65 < cLine) : OpR X (compareOp .Eq) (rI2b X.K opEq) := by
  intro pins s σ H x y v u Q I rx ry ⟨ι, M, a, b, r, R, ha, hb, e, k⟩
  have hu' : X.A.units + 64 < cLine := by omega
  unfold opEq at e
  split at e
  · rename_i va vb ea eb
    obtain ⟨rfl, _⟩ := flR_ok ha ea
    obtain ⟨rfl, _⟩ := flR_ok hb eb
    rw [vEq_eq] at e
    split at e
    · rename_i hs
      cases e
      exact op_eq pins s σ H _ _ v u Q I rx ry ⟨hs, k⟩
    · split at e
      · rename_i d d' ed ed'
        split at e
        · rename_i hs
          cases e
          exact op_eqD hu' pins s σ H _ _ v u Q I rx ry ⟨d, d', pdR_ok R ha ed, pdR_ok R hb ed', hs.1, hs.2, k⟩
        · cases e
      · cases e
  · split at e
    · rename_i d d' ed ed'
      split at e
      · rename_i hs
        cases e
        exact op_eqD hu' pins s σ H _ _ v u Q I rx ry ⟨d, d', pdR_ok R ha ed, pdR_ok R hb ed', hs.1, hs.2, k⟩
      · cases e
    · cases e
theorem opNe_ok (hu : X.A.units + 65 < cLine) : OpR X (compareOp .NotEq) (rI2b X.K fun M x y => (opEq M x y).map (!·)) := by
  intro pins s σ H x y v u Q I rx ry ⟨ι, M, a, b, r, R, ha, hb, e, k⟩
  have hu' : X.A.units + 64 < cLine := by omega
  simp only [Option.map_eq_some_iff] at e
  obtain ⟨r', e, rfl⟩ := e
  unfold opEq at e
  split at e
  · rename_i va vb ea eb
    obtain ⟨rfl, _⟩ := flR_ok ha ea
    obtain ⟨rfl, _⟩ := flR_ok hb eb
    split at e
    · rename_i hs
      cases e
      rw [vEq_eq] at k
      exact op_ne pins s σ H _ _ v u Q I rx ry ⟨hs, k⟩
    · split at e
      · rename_i d d' ed ed'
        split at e
        · rename_i hs
          cases e
          exact op_neD hu' pins s σ H _ _ v u Q I rx ry ⟨d, d', pdR_ok R ha ed, pdR_ok R hb ed', hs.1, hs.2, k⟩
        · cases e
      · cases e
  · split at e
    · rename_i d d' ed ed'
      split at e
      · rename_i hs
        cases e
        exact op_neD hu' pins s σ H _ _ v u Q I rx ry ⟨d, d', pdR_ok R ha ed, pdR_ok R hb ed', hs.1, hs.2, k⟩
      · cases e
    · cases e
theorem ref_of {K : PySem.W.Frag} {ι : List Addr} {H : Hp} {a : RV} {x : V} (h : RVR K ι H a x) (hn : ∀ d, a = .v d → flV d = none) (ht : ∀ n, a ≠ .v (.ty n)) : ∃ p, x = .ref p := by
  cases h with
  | lst _ _ _ => exact ⟨_, rfl⟩
  | dic _ _ _ => exact ⟨_, rfl⟩
  | v h => cases h with
    | non => exact absurd (hn _ rfl) (by simp [flV])
    | bl b => exact absurd (hn _ rfl) (by simp [flV])
    | int b => exact absurd (hn _ rfl) (by simp [flV])
    | str b => exact absurd (hn _ rfl) (by simp [flV])
    | tup _ _ => exact ⟨_, rfl⟩
    | obj _ => exact ⟨_, rfl⟩
    | glo _ => exact ⟨_, rfl⟩
    | exn => exact ⟨_, rfl⟩
    | scr _ => exact ⟨_, rfl⟩
    | ty n => exact absurd rfl (ht n)
/-- what `is` tells: of None, or of two bools -/
theorem opIs_val {K : PySem.W.Frag} {ι : List Addr} {H : Hp} {M : DM} {a b : RV} {x y : V} {r : Bool} (ha : RVR K ι H a x) (hb : RVR K ι H b y) (e : opIs M a b = some r) : (y = .non ∧ r = decide (x = .non)) ∨ ∃ p q : Bool, x = .bl p ∧ y = .bl q ∧ r = decide (p = q) := by
  unfold opIs at e
  split at e
  · cases e; cases vr_non ha; cases vr_non hb; exact .inl ⟨rfl, rfl⟩
  · cases e; cases vr_bl ha; cases vr_bl hb; exact .inr ⟨_, _, rfl, rfl, rfl⟩
  · cases e; cases vr_non hb
    obtain ⟨p, rfl⟩ := ref_of ha (fun d e => by cases e; rfl) (fun n e => by cases e)
    exact .inl ⟨rfl, by simp⟩
  · cases e; cases vr_non hb
    obtain ⟨p, rfl⟩ := ref_of ha (fun d e => by cases e; rfl) (fun n e => by cases e)
    exact .inl ⟨rfl, by simp⟩
  · cases e; cases vr_non hb; cases vr_bl ha; exact .inl ⟨rfl, by simp⟩
  · cases e; cases vr_non hb; cases vr_int ha; exact .inl ⟨rfl, by simp⟩
  · cases e; cases vr_non hb; cases vr_str ha; exact .inl ⟨rfl, by simp⟩
  · cases e; cases vr_non hb
    obtain ⟨p, rfl⟩ := ref_of ha (fun d e => by cases e; rfl) (fun n e => by cases e)
    exact .inl ⟨rfl, by simp⟩
  · cases e; cases vr_non hb
    obtain ⟨p, rfl⟩ := ref_of ha (fun d e => by cases e) (fun n e => by cases e)
    exact .inl ⟨rfl, by simp⟩
  · cases e; cases vr_non hb
    obtain ⟨p, rfl⟩ := ref_of ha (fun d e => by cases e) (fun n e => by cases e)
    exact .inl ⟨rfl, by simp⟩
  · cases e
theorem opIs_ok : OpR X (compareOp .Is) (rI2b X.K opIs) := by
  intro pins s σ H x y v u Q I rx ry ⟨ι, M, a, b, r, R, ha, hb, e, k⟩
  rcases opIs_val ha hb e with ⟨rfl, rfl⟩ | ⟨p, q, rfl, rfl, rfl⟩
  · exact op_isN pins s σ H _ _ v u Q I rx ry ⟨rfl, k⟩
  · exact op_isBl pins s σ H _ _ v u Q I rx ry ⟨p, q, rfl, rfl, k⟩
theorem opIsnt_ok : OpR X (compareOp .IsNot) (rI2b X.K fun M x y => (opIs M x y).map (!·)) := by
  intro pins s σ H x y v u Q I rx ry ⟨ι, M, a, b, r, R, ha, hb, e, k⟩
  simp only [Option.map_eq_some_iff] at e
  obtain ⟨r', e, rfl⟩ := e
  rcases opIs_val ha hb e with ⟨rfl, rfl⟩ | ⟨p, q, rfl, rfl, rfl⟩
  · exact op_notN pins s σ H _ _ v u Q I rx ry ⟨rfl, k⟩
  · exact op_notBl pins s σ H _ _ v u Q I rx ry ⟨p, q, rfl, rfl, k⟩
theorem opLt_ok : OpR X (compareOp .Lt) (rI2b X.K opLt) := by
  intro pins s σ H x y v u Q I rx ry ⟨ι, M, a, b, r, R, ha, hb, e, k⟩
  unfold opLt at e
  split at e
  · cases e; cases vr_int ha; cases vr_int hb; exact op_lt pins s σ H _ _ v u Q I rx ry ⟨_, _, rfl, rfl, k⟩
  · cases e; cases vr_str ha; cases vr_str hb; exact op_lt_str pins s σ H _ _ v u Q I rx ry ⟨_, _, rfl, rfl, k⟩
  · cases e
theorem opLe_ok : OpR X (compareOp .LtE) (rI2b X.K opLe) := by
  intro pins s σ H x y v u Q I rx ry ⟨ι, M, a, b, r, R, ha, hb, e, k⟩
  unfold opLe at e
  split at e
  · cases e; cases vr_int ha; cases vr_int hb; exact op_le pins s σ H _ _ v u Q I rx ry ⟨_, _, rfl, rfl, k⟩
  · cases e; cases vr_str ha; cases vr_str hb; exact op_le_str pins s σ H _ _ v u Q I rx ry ⟨_, _, rfl, rfl, k⟩
  · cases e
theorem opGt_ok : OpR X (compareOp .Gt) (rI2b X.K fun M x y => opLt M y x) := by
  intro pins s σ H x y v u Q I rx ry ⟨ι, M, a, b, r, R, ha, hb, e, k⟩
  simp only [opLt] at e
  split at e
  · cases e; cases vr_int ha; cases vr_int hb; exact op_gt pins s σ H _ _ v u Q I rx ry ⟨_, _, rfl, rfl, k⟩
  · cases e; cases vr_str ha; cases vr_str hb; exact op_gt_str pins s σ H _ _ v u Q I rx ry ⟨_, _, rfl, rfl, k⟩
  · cases e
theorem opGe_ok : OpR X (compareOp .GtE) (rI2b X.K fun M x y => opLe M y x) := by
  intro pins s σ H x y v u Q I rx ry ⟨ι, M, a, b, r, R, ha, hb, e, k⟩
  simp only [opLe] at e
  split at e
  · cases e; cases vr_int ha; cases vr_int hb; exact op_ge pins s σ H _ _ v u Q I rx ry ⟨_, _, rfl, rfl, k⟩
  · cases e; cases vr_str ha; cases vr_str hb; exact op_ge_str pins s σ H _ _ v u Q I rx ry ⟨_, _, rfl, rfl, k⟩
  · cases e
theorem mapO_fl {K : PySem.W.Frag} {ι : List Addr} {H : Hp} : ∀ {ds : List DV} {vs xs : List V}, VRs K ι H ds vs → mapO flV ds = some xs → vs = xs ∧ xs.all flatV = true
  | [], _, _, h, e => by cases h; cases e; exact ⟨rfl, rfl⟩
  | d :: ds, _, _, h, e => by
    cases h with
    | cons r t =>
      unfold mapO at e
      split at e
      · rename_i b bs e1 e2
        cases e
        obtain ⟨rfl, h1⟩ := flV_ok r e1
        obtain ⟨rfl, h2⟩ := mapO_fl t e2
        exact ⟨rfl, by simp [h1, h2]⟩
      · cases e
theorem op_inDK (hu : X.A.units + 1 < cLine) : OpR X (compareOp .In) (fun x y H Q => ∃ a o, y = .ref a ∧ DGet H a x o ∧ Q (.bl o.isSome) H) := by
  intro pins s σ H x y v u Q I rx ry ⟨a, o, e, g, k⟩
  subst e; cases ry
  exact d_in hu I g rx fun s3 I3 => ⟨.bl o.isSome, H, I3, rfl, k⟩
theorem op_notInDK (hu : X.A.units + 1 < cLine) : OpR X (compareOp .NotIn) (fun x y H Q => ∃ a o, y = .ref a ∧ DGet H a x o ∧ Q (.bl (!o.isSome)) H) := by
  intro pins s σ H x y v u Q I rx ry ⟨a, o, e, g, k⟩
  subst e; cases ry
  exact d_notIn hu I g rx fun s3 I3 => ⟨.bl (!o.isSome), H, I3, rfl, k⟩
theorem op_inDT (hu : X.A.units + 65 < cLine) : OpR X (compareOp .In) (fun x y H Q => ∃ d ds, Dp X.K H x d ∧ Dp X.K H y (.tuple ds) ∧ SeqAt.shaped d = true ∧ SeqAt.shaped (.tuple ds) = true ∧ Q (.bl (ds.any fun z => PyData.eqv z d)) H) := by
  intro pins s σ H x y v u Q I rx ry ⟨d, ds, hd, he, sd, se, q⟩
  have ⟨as, r1⟩ := Dp.reads I d x v hd rx
  have ⟨bs, r2⟩ := Dp.reads I (.tuple ds) y u he ry
  have lay : PyData.canLayAll0 ds = true := by
    have z := SeqAt.canLay_of_shaped se
    simpa [PyData.canLay0] using z
  exact SeqAt.in_tuple_reads r2 r1 lay (SeqAt.canLay_of_shaped sd) (room_in_shaped sd hu) ⟨.bl _, H, I, rfl, q⟩
theorem op_notInDT (hu : X.A.units + 65 < cLine) : OpR X (compareOp .NotIn) (fun x y H Q => ∃ d ds, Dp X.K H x d ∧ Dp X.K H y (.tuple ds) ∧ SeqAt.shaped d = true ∧ SeqAt.shaped (.tuple ds) = true ∧ Q (.bl (!ds.any fun z => PyData.eqv z d)) H) := by
  intro pins s σ H x y v u Q I rx ry ⟨d, ds, hd, he, sd, se, q⟩
  have ⟨as, r1⟩ := Dp.reads I d x v hd rx
  have ⟨bs, r2⟩ := Dp.reads I (.tuple ds) y u he ry
  have lay : PyData.canLayAll0 ds = true := by
    have z := SeqAt.canLay_of_shaped se
    simpa [PyData.canLay0] using z
  exact SeqAt.notIn_tuple_reads r2 r1 lay (SeqAt.canLay_of_shaped sd) (room_in_shaped sd hu) ⟨.bl _, H, I, rfl, q⟩
/-- what `in` tells -/
inductive InSays (K : PySem.W.Frag) (H : Hp) (x y : V) (r : Bool) : Prop
  | sign (c : Nat) (z : Str) : x = .str ⟨#[c]⟩ → y = .str z → r = decide (c ∈ z.cps.toList) → InSays K H x y r
  | text (i j : Str) : x = .str i → y = .str j → r = (!(Builtin.Str.occurrences j i 0 j.length 1).isEmpty) → InSays K H x y r
  | flat (p : Addr) (xs : List V) : y = .ref p → (SqL K H p xs ∨ SqT K H p xs) → flatV x = true → xs.all flatV = true → r = inV x xs → InSays K H x y r
  | list (d : PyData) (ds : List PyData) : Dp K H x d → Dp K H y (.list ds) → SeqAt.shaped d = true → SeqAt.shaped (.list ds) = true → r = (ds.any fun z => PyData.eqv z d) → InSays K H x y r
  | tuple (d : PyData) (ds : List PyData) : Dp K H x d → Dp K H y (.tuple ds) → SeqAt.shaped d = true → SeqAt.shaped (.tuple ds) = true → r = (ds.any fun z => PyData.eqv z d) → InSays K H x y r
  | dict (a : Addr) (o : Option V) : y = .ref a → DGet H a x o → r = o.isSome → InSays K H x y r
theorem opIn_says {K : PySem.W.Frag} {ι : List Addr} {H : Hp} {M : DM} {a b : RV} {x y : V} {r : Bool} (R : Rep K ι H M) (ha : RVR K ι H a x) (hb : RVR K ι H b y) (e : opIn M a b = some r) : InSays K H x y r := by
  unfold opIn at e
  split at e
  · cases e; cases vr_str ha; cases vr_str hb
    rename_i i j
    unfold strIn
    split
    · rename_i c hc
      have e : i = ⟨#[c]⟩ := by
        obtain ⟨arr⟩ := i
        have : arr = #[c] := by rw [← Array.toArray_toList (xs := arr)]; exact congrArg List.toArray hc
        rw [this]
      exact .sign c _ (by rw [e]) rfl rfl
    · exact .text _ _ rfl rfl rfl
  · split at e
    · rename_i ds es
      obtain ⟨p, xs, rfl, hq, t⟩ := asS_ok R hb es
      split at e
      · rename_i va bs e1 e2
        cases e
        obtain ⟨rfl, f1⟩ := flR_ok ha e1
        obtain ⟨rfl, f2⟩ := mapO_fl t e2
        exact .flat p _ rfl hq f1 f2 rfl
      · split at e
        · rename_i d es' ed ee
          split at e
          · rename_i hs; cases e; exact .list d _ (pdR_ok R ha ed) (pdR_ok R hb ee) hs.1 hs.2 rfl
          · cases e
        · rename_i d es' ed ee
          split at e
          · rename_i hs; cases e; exact .tuple d _ (pdR_ok R ha ed) (pdR_ok R hb ee) hs.1 hs.2 rfl
          · cases e
        · cases e
    · split at e
      · rename_i kvs k e1 e2
        cases e
        obtain ⟨p, es, rfl, rd, t⟩ := asD_ok R hb e1
        cases keyOf_ok ha e2
        exact .dict p _ rfl (dget_rd rd k) (valD_is t k).symm
      · cases e
theorem opIn_ok (hu : X.A.units + 65 < cLine) : OpR X (compareOp .In) (rI2b X.K opIn) := by
  intro pins s σ H x y v u Q I rx ry ⟨ι, M, a, b, r, R, ha, hb, e, k⟩
  have q := opIn_says R ha hb e
  cases q with
  | sign c z e1 e2 e3 => subst e1 e2 e3; exact op_in_sign pins s σ H _ _ v u Q I rx ry ⟨c, z, rfl, rfl, k⟩
  | text i j e1 e2 e3 => subst e1 e2 e3; exact op_in_str pins s σ H _ _ v u Q I rx ry ⟨i, j, rfl, rfl, k⟩
  | flat p xs e1 hq f1 f2 e3 => subst e1 e3; exact op_in_seq pins s σ H _ _ v u Q I rx ry ⟨p, xs, rfl, hq, f1, f2, k⟩
  | list d ds h1 h2 s1 s2 e3 => subst e3; exact op_inD hu pins s σ H _ _ v u Q I rx ry ⟨d, ds, h1, h2, s1, s2, k⟩
  | tuple d ds h1 h2 s1 s2 e3 => subst e3; exact op_inDT hu pins s σ H _ _ v u Q I rx ry ⟨d, ds, h1, h2, s1, s2, k⟩
  | dict p o e1 g e3 => subst e1 e3; exact op_inDK (by omega) pins s σ H _ _ v u Q I rx ry ⟨p, o, rfl, g, k⟩
theorem opNotIn_ok (hu : X.A.units + 65 < cLine) : OpR X (compareOp .NotIn) (rI2b X.K fun M x y => (opIn M x y).map (!·)) := by
  intro pins s σ H x y v u Q I rx ry ⟨ι, M, a, b, r, R, ha, hb, e, k⟩
  simp only [Option.map_eq_some_iff] at e
  obtain ⟨r', e, rfl⟩ := e
  have q := opIn_says R ha hb e
  cases q with
  | sign c z e1 e2 e3 => subst e1 e2 e3; exact op_notIn_sign pins s σ H _ _ v u Q I rx ry ⟨c, z, rfl, rfl, k⟩
  | text i j e1 e2 e3 => subst e1 e2 e3; exact op_notIn_str pins s σ H _ _ v u Q I rx ry ⟨i, j, rfl, rfl, k⟩
  | flat p xs e1 hq f1 f2 e3 => subst e1 e3; exact op_notIn_seq pins s σ H _ _ v u Q I rx ry ⟨p, xs, rfl, hq, f1, f2, k⟩
  | list d ds h1 h2 s1 s2 e3 => subst e3; exact op_notInD hu pins s σ H _ _ v u Q I rx ry ⟨d, ds, h1, h2, s1, s2, k⟩
  | tuple d ds h1 h2 s1 s2 e3 => subst e3; exact op_notInDT hu pins s σ H _ _ v u Q I rx ry ⟨d, ds, h1, h2, s1, s2, k⟩
  | dict p o e1 g e3 => subst e1 e3; exact op_notInDK (by omega) pins s σ H _ _ v u Q I rx ry ⟨p, o, rfl, g, k⟩
theorem opCmp_ok (hu : X.A.units + 65 < cLine) (op : CmpOp) : OpR X (compareOp op) (rI2b X.K (opCmp op)) := by
  cases op with
  | Eq => exact opEq_ok hu
  | NotEq => exact opNe_ok hu
  | Lt => exact opLt_ok
  | LtE => exact opLe_ok
  | Gt => exact opGt_ok
  | GtE => exact opGe_ok
  | Is => exact opIs_ok
  | IsNot => exact opIsnt_ok
  | In => exact opIn_ok hu
  | NotIn => exact opNotIn_ok hu
end

end
end Lk
end

section
set_option Elab.async false
set_option linter.all false
set_option maxRecDepth 100000
set_option maxHeartbeats 4000000
namespace Lk
open PySem PySem.Spec PyProof.Rows L2
noncomputable section
variable [Tbl] [Lnk]
/-! ## IV: expressions -/
section
variable {K : PySem.W.Frag} {W : WX} {ι ι' : List Addr} {H H' : Hp} {M : DM}
theorem SR.get : ∀ {δ : DS} {σ : L2.St} {i : Nat} {d : DV}, SR K ι H δ σ → δ[i]? = some (some d) → ∃ v, σ[i]? = some (some v) ∧ VR K ι H d v
  | [], _, _, _, _, e => by simp at e
  | _ :: _, _ :: _, 0, d, .cons r _, e => by
    simp at e; subst e
    obtain ⟨y, h1, h2⟩ := r d rfl
    exact ⟨y, by simp [h1], h2⟩
  | _ :: δ, _ :: σ, i + 1, d, .cons _ t, e => have q := SR.get (δ := δ) (i := i) (d := d) t (by simpa using e); q.elim fun v h => ⟨v, by simpa using h.1, h.2⟩
theorem SR.set : ∀ {δ : DS} {σ : L2.St} {d : DV} {v : V} (i : Nat), SR K ι H δ σ → VR K ι H d v → SR K ι H (δ.set i (some d)) (σ.set i (some v))
  | [], [], _, _, _, .nil, _ => .nil
  | _ :: _, _ :: _, _, _, 0, .cons _ t, r => .cons (fun x e => by cases e; exact ⟨_, rfl, r⟩) t
  | _ :: _, _ :: _, _, _, i + 1, .cons h t, r => .cons h (SR.set i t r)
theorem SR.length {δ : DS} {σ : L2.St} (h : SR K ι H δ σ) : δ.length = σ.length := Paired.length h
theorem Rep.snoc (R : Rep K ι H M) {a : Addr} {u : HO} {o : DObj} (hn : a ∉ ι) (hu : H a = some u) (ho : OR K ι H o u) : Rep K (ι ++ [a]) H (M.push o) := by
  have up : ∀ (o' : DObj) (u' : HO), OR K ι H o' u' → OR K (ι ++ [a]) H o' u' := fun o' u' h => by
    have gi : ∀ (n : Nat) (b : Addr), ι[n]? = some b → (ι ++ [a])[n]? = some b := fun n b e => by
      rw [List.getElem?_append_left (List.getElem?_eq_some_iff.mp e).1]; exact e
    have gv : ∀ {ds : List DV} {vs : List V}, VRs K ι H ds vs → VRs K (ι ++ [a]) H ds vs := fun h => h.go gi fun _ _ e => e
    have gf : ∀ {κ : Type} {ds : List (κ × DV)} {vs : List (κ × V)}, FR K ι H ds vs → FR K (ι ++ [a]) H ds vs := fun h => by
      induction h with
      | nil => exact .nil
      | cons h _ t => exact .cons ⟨h.1, h.2.go gi fun _ _ e => e⟩ t
    cases o' with
    | lst ds => obtain ⟨xs, e, r⟩ := h; exact ⟨xs, e, gv r⟩
    | dic lk kvs => cases lk with
      | false => obtain ⟨es, e, r⟩ := h; exact ⟨es, e, gf r⟩
      | true => obtain ⟨o, es, e, r⟩ := h; exact ⟨o, es, e, gf r⟩
    | ins c fs => obtain ⟨dx, es, e, r⟩ := h; exact ⟨dx, es, e, gf r⟩
  refine ⟨by rw [List.length_append, DM.length_push, R.len]; rfl, ?_, fun n hn => ?_, fun n b o' h1 h2 => ?_, R.tb, R.xgo ⟨_, rfl⟩ fun _ _ _ e _ => e⟩
  · rw [List.nodup_append]
    refine ⟨R.nd, by simp, fun x hx y hy e => ?_⟩
    rw [List.mem_singleton.mp hy] at e
    exact hn (e ▸ hx)
  · by_cases hl : n < M.length
    · rw [DM.push_lt hl]; exact R.fl n hl
    · have e : n = M.length := by have := hn; rw [DM.length_push] at this; omega
      subst e
      exact ⟨o, DM.push_same⟩
  · by_cases hl : n < ι.length
    · rw [List.getElem?_append_left hl] at h1
      rw [DM.push_lt (by rw [← R.len]; exact hl)] at h2
      obtain ⟨u', e, q⟩ := R.at_ n b o' h1 h2
      exact ⟨u', e, up _ _ q⟩
    · rw [List.getElem?_append_right (by omega)] at h1
      have e0 : n - ι.length = 0 := by
        have := (List.getElem?_eq_some_iff.mp h1).1
        simp at this; omega
      rw [e0] at h1
      have e1 : n = M.length := by rw [← R.len]; omega
      rw [e1, DM.push_same] at h2
      simp at h1 h2
      subst h1 h2
      exact ⟨u, hu, up _ _ ho⟩
theorem Aft.snoc (A : Aft ι H ι' H') {a : Addr} (h : Free H a) : Aft ι H (ι' ++ [a]) H' := by
  obtain ⟨new, rfl, hn⟩ := A.ext
  refine ⟨⟨new ++ [a], by rw [List.append_assoc], fun b hb => ?_⟩, A.fr0, A.th, A.fz⟩
  rcases List.mem_append.mp hb with z | z
  · exact hn b z
  · rw [List.mem_singleton.mp z]; exact h
/-- a new thing gets its number -/
def mat (M : DM) : RV → DV × DM
  | .v d => (d, M)
  | .lst ds => (.obj M.length, M.push (.lst ds))
  | .dic kvs => (.obj M.length, M.push (.dic false kvs))
theorem mat_ok (A : Aft ι H ι' H') (R : Rep K ι' H' M) {r : RV} {v : V} (h : RVR K ι' H' r v) (f : Fresh H r v) : ∃ ι2, Aft ι H ι2 H' ∧ Rep K ι2 H' (mat M r).2 ∧ VR K ι2 H' (mat M r).1 v := by
  have at_ : ∀ a : Addr, (ι' ++ [a])[M.length]? = some a := fun a => by rw [← R.len]; simp
  cases h with
  | v h => exact ⟨ι', A, R, h⟩
  | @lst ds a xs n g t => exact ⟨ι' ++ [a], A.snoc (f a rfl), R.snoc n g ⟨xs, rfl, t⟩, .obj (at_ a)⟩
  | @dic kvs a es n g t => exact ⟨ι' ++ [a], A.snoc (f a rfl), R.snoc (o := .dic false kvs) n g ⟨es, rfl, t⟩, .obj (at_ a)⟩
end
theorem pe_of {X : Cx} {e : Expr} {t t' : TE} (h : PE X e t) (k : ∀ σ H Q, t' σ H Q → t σ H Q) : PE X e t' := ⟨fun pins s σ H Q I w => h.run pins s σ H Q I (k σ H Q w)⟩
theorem pe_alt {X : Cx} {e : Expr} {t t' : TE} (h : PE X e t) (h' : PE X e t') : PE X e (fun σ H Q => t σ H Q ∨ t' σ H Q) := ⟨fun pins s σ H Q I w => w.elim (h.run pins s σ H Q I) (h'.run pins s σ H Q I)⟩
theorem pt_of {X : Cx} {e : Expr} {t t' : TT} (h : PT X e t) (k : ∀ σ H Q, t' σ H Q → t σ H Q) : PT X e t' := ⟨fun pins s σ H Q I w => h.run pins s σ H Q I (k σ H Q w)⟩
theorem pa_of {X : Cx} {e : List Expr} {t t' : TA} (h : PA X e t) (k : ∀ σ H Q, t' σ H Q → t σ H Q) : PA X e t' := ⟨fun pos pins s σ H Q I w => h.run pos pins s σ H Q I (k σ H Q w)⟩
/-! ### the steps -/
def mVar (i : Nat) : DE := fun δ M => match δ[i]? with
  | some (some d) => .ok (.v d) M
  | _ => .bad
def mC (d : DV) : DE := fun _ M => .ok (.v d) M
def ansR (M : DM) : Option RV → Res RV
  | some r => .ok r M
  | none => .bad
def ansB (M : DM) : Option Bool → Res RV
  | some r => .ok (.v (.bl r)) M
  | none => .bad
def ansT (M : DM) : Option Bool → Res Bool
  | some r => .ok r M
  | none => .bad
def m2 {α : Type} (ma mb : DE) (f : DM → RV → RV → Res α) : DS → DM → Res α := fun δ M => (ma δ M).bind fun x M1 => (mb δ M1).bind fun y M2 => f M2 x y
def mBin (g : DM → RV → RV → Option RV) (ma mb : DE) : DE := m2 ma mb fun M x y => ansR M (g M x y)
def mCmp (g : DM → RV → RV → Option Bool) (ma mb : DE) : DE := m2 ma mb fun M x y => ansB M (g M x y)
def mCmpT (g : DM → RV → RV → Option Bool) (ma mb : DE) : DS → DM → Res Bool := m2 ma mb fun M x y => ansT M (g M x y)
/-- the outcome's number -/
def mV (m : DE) : DS → DM → Res DV := fun δ M => (m δ M).bind fun r M1 => .ok (mat M1 r).1 (mat M1 r).2
section
variable {X : Cx} {W : WX} {e a b : Expr} {m ma mb : DE} {pos : Pos}
theorem iv_v (h : PE X e (tI X.K W m)) : PE X e (tIv X.K W (mV m)) := pe_of h fun σ H Q ⟨ι, δ, M, hs, R, h⟩ => by
  refine ⟨ι, δ, M, hs, R, ?_⟩
  unfold mV at h
  cases e : m δ M with
  | ok r M' =>
    rw [e] at h
    intro ι' v H' A R' ⟨r1, f⟩
    obtain ⟨ι2, A2, R2, v2⟩ := mat_ok A R' r1 f
    exact h ι2 v H' A2 R2 v2
  | exc x M' => rw [e] at h; exact h
  | bad => rw [e] at h; exact h
theorem iv_var {i : Nat} {x : Str} (hN : X.N[i]? = some x) (hv : Vis X.env.scope x) (hd : (x == ("__debug__" : Str)) = false) (hcd : (x == ("__classdict__" : Str)) = false) : PE X (.Name x pos) (tI X.K W (mVar i)) :=
  pe_of (pe_var hN hv hd hcd) fun σ H Q ⟨ι, δ, M, hs, R, h⟩ => by
    unfold mVar at h
    split at h
    · rename_i d e
      obtain ⟨v, h1, h2⟩ := hs.get e
      exact ⟨v, h1, h.ret R ⟨.v h2, trivial⟩⟩
    · exact h.elim
theorem iv_c {d : DV} {v : V} (h : PE X e (tC v)) (r : ∀ ι H, VR X.K ι H d v) : PE X e (tI X.K W (mC d)) := pe_of h fun σ H Q ⟨ι, δ, M, hs, R, h⟩ => h.ret R ⟨.v (r ι H), trivial⟩
theorem iv_int {i : Int} {j : Nat} : PE X (.Constant (.int i) j pos) (tI X.K W (mC (.int i))) := iv_c pe_int fun _ _ => .int i
theorem iv_bl {i : Bool} {j : Nat} : PE X (.Constant (.bool i) j pos) (tI X.K W (mC (.bl i))) := iv_c pe_bl fun _ _ => .bl i
theorem iv_str {i : Str} {j : Nat} : PE X (.Constant (.str i) j pos) (tI X.K W (mC (.str i))) := iv_c pe_str fun _ _ => .str i
theorem iv_non {j : Nat} : PE X (.Constant .none j pos) (tI X.K W (mC .non)) := iv_c pe_non fun _ _ => .non
theorem tI_op {K : PySem.W.Frag} {g : DM → RV → RV → Option RV} {σ : L2.St} {H : Hp} {Q : VK} : tI K W (mBin g ma mb) σ H Q → tOp (rI2 K g) (tI K W ma) (tI K W mb) σ H Q := fun ⟨ι, δ, M, hs, R, h⟩ => by
  refine ⟨ι, δ, M, hs, R, (Post.bind early_E hs R h).imp ?_⟩
  rintro v H1 ⟨x, ι1, M1, A1, hs1, R1, hx, h1⟩
  refine ⟨ι1, δ, M1, hs1, R1, (Post.bind early_E hs1 R1 h1).imp ?_⟩
  rintro w H2 ⟨y, ι2, M2, A2, hs2, R2, hy, h2⟩
  have h2 : Post K W σ ι2 H2 (relE K) (ansR M2 (g M2 x y)) Q := h2
  cases e : g M2 x y with
  | none => rw [e] at h2; exact h2.elim
  | some r =>
    rw [e] at h2
    exact ⟨ι2, M2, x, y, r, R2, hx.1.aft R1 A2, hy.1, e, fun v H' S r' f => Post.same h2 R2 S ⟨r', f⟩⟩
theorem tI_cmp {K : PySem.W.Frag} {g : DM → RV → RV → Option Bool} {σ : L2.St} {H : Hp} {Q : VK} : tI K W (mCmp g ma mb) σ H Q → tOp (rI2b K g) (tI K W ma) (tI K W mb) σ H Q := fun ⟨ι, δ, M, hs, R, h⟩ => by
  refine ⟨ι, δ, M, hs, R, (Post.bind early_E hs R h).imp ?_⟩
  rintro v H1 ⟨x, ι1, M1, A1, hs1, R1, hx, h1⟩
  refine ⟨ι1, δ, M1, hs1, R1, (Post.bind early_E hs1 R1 h1).imp ?_⟩
  rintro w H2 ⟨y, ι2, M2, A2, hs2, R2, hy, h2⟩
  have h2 : Post K W σ ι2 H2 (relE K) (ansB M2 (g M2 x y)) Q := h2
  cases e : g M2 x y with
  | none => rw [e] at h2; exact h2.elim
  | some r =>
    rw [e] at h2
    exact ⟨ι2, M2, x, y, r, R2, hx.1.aft R1 A2, hy.1, e, Post.ret h2 R2 ⟨.v (.bl r), trivial⟩⟩
theorem tI_cmpT {K : PySem.W.Frag} {g : DM → RV → RV → Option Bool} {σ : L2.St} {H : Hp} {Q : Bool → Hp → Prop} : tIt K W (mCmpT g ma mb) σ H Q → tTest (tOp (rI2b K g) (tI K W ma) (tI K W mb)) σ H Q := fun ⟨ι, δ, M, hs, R, h⟩ => by
  refine ⟨ι, δ, M, hs, R, (Post.bind early_B hs R h).imp ?_⟩
  rintro v H1 ⟨x, ι1, M1, A1, hs1, R1, hx, h1⟩
  refine ⟨ι1, δ, M1, hs1, R1, (Post.bind early_B hs1 R1 h1).imp ?_⟩
  rintro w H2 ⟨y, ι2, M2, A2, hs2, R2, hy, h2⟩
  have h2 : Post K W σ ι2 H2 relB (ansT M2 (g M2 x y)) Q := h2
  cases e : g M2 x y with
  | none => rw [e] at h2; exact h2.elim
  | some r =>
    rw [e] at h2
    exact ⟨ι2, M2, x, y, r, R2, hx.1.aft R1 A2, hy.1, e, r, rfl, Post.ret h2 R2 rfl⟩
theorem iv_op {op : Operator} {g : DM → RV → RV → Option RV} (ho : OpR X (binaryOp op) (rI2 X.K g)) (ha : PE X a (tI X.K W ma)) (hb : PE X b (tI X.K W mb)) : PE X (.BinOp a op b pos) (tI X.K W (mBin g ma mb)) := pe_of (pe_op ho ha hb) fun _ _ _ => tI_op
theorem iv_cmp {op : CmpOp} (hu : X.A.units + 65 < cLine) (ha : PE X a (tI X.K W ma)) (hb : PE X b (tI X.K W mb)) (hm : behindInMarks op b = false) : PE X (.Compare a [op] [b] pos) (tI X.K W (mCmp (opCmp op) ma mb)) := pe_of (pe_cmpR (opCmp_ok hu op) ha hb hm) fun _ _ _ => tI_cmp
theorem iv_cmpT {op : CmpOp} (hu : X.A.units + 65 < cLine) (ha : PE X a (tI X.K W ma)) (hb : PE X b (tI X.K W mb)) (hm : behindInMarks op b = false) : PT X (.Compare a [op] [b] pos) (tIt X.K W (mCmpT (opCmp op) ma mb)) := pt_of (pt_cmpR (opCmp_ok hu op) ha hb hm) fun _ _ _ => tI_cmpT
end

end
end Lk
end

section
set_option Elab.async false
set_option linter.all false
set_option maxRecDepth 100000
set_option maxHeartbeats 4000000
namespace Lk
open PySem PySem.Spec PyProof.Rows L2
noncomputable section
variable [Tbl] [Lnk]
/-! ## IV: tests, choices, displays, parts -/
def truR (M : DM) : RV → Option Bool
  | .v .non => some false
  | .v (.bl b) => some b
  | .v (.int i) => some (i != 0)
  | .v (.str s) => if s.length ≤ LIM then some ((s.length : Int) != 0) else none
  | .v (.tup ds) => some (!ds.isEmpty)
  | .lst ds => some (!ds.isEmpty)
  | .dic kvs => some (!kvs.isEmpty)
  | .v (.obj n) => match M[n]? with
    | some (.lst ds) => some (!ds.isEmpty)
    | some (.dic false kvs) => some (!kvs.isEmpty)
    | _ => none
  | _ => none
theorem VRs.empty {K : PySem.W.Frag} {ι : List Addr} {H : Hp} {ds : List DV} {vs : List V} (h : VRs K ι H ds vs) : ds.isEmpty = vs.isEmpty := by cases h <;> rfl
theorem FR.empty {κ : Type} {K : PySem.W.Frag} {ι : List Addr} {H : Hp} {ds : List (κ × DV)} {vs : List (κ × V)} (h : FR K ι H ds vs) : ds.isEmpty = vs.isEmpty := by cases h <;> rfl
theorem truR_ok {K : PySem.W.Frag} {ι : List Addr} {H : Hp} {M : DM} {r : RV} {v : V} {b : Bool} (R : Rep K ι H M) (h : RVR K ι H r v) (e : truR M r = some b) : TruV K v H b := by
  cases h with
  | lst n g t => cases e; exact .inl ⟨_, SqL.of g, by rw [t.empty]⟩
  | dic n g t => cases e; exact .inr (.inr ⟨_, g, by rw [FR.empty t]⟩)
  | v h => cases h with
    | non => cases e; rfl
    | bl b => cases e; rfl
    | int i => cases e; rfl
    | str s =>
      simp only [truR] at e
      split at e
      · rename_i hl; cases e; exact ⟨lim_line hl, rfl⟩
      · cases e
    | tup q t => cases e; exact .inr (.inl ⟨_, q, by rw [t.empty]⟩)
    | glo x => cases e
    | ty n => cases e
    | exn => cases e
    | scr _ => cases e
    | @obj n a hn =>
      simp only [truR] at e
      split at e
      · rename_i ds hm
        cases e
        obtain ⟨u, g, xs, rfl, t⟩ := R.at_ _ _ _ hn hm
        exact .inl ⟨_, SqL.of g, by rw [t.empty]⟩
      · rename_i ds hm
        cases e
        obtain ⟨u, g, xs, rfl, t⟩ := R.at_ _ _ _ hn hm
        exact .inr (.inr ⟨_, g, by rw [FR.empty t]⟩)
      · cases e
abbrev DT := DS → DM → Res Bool
def mTru (m : DE) : DT := fun δ M => (m δ M).bind fun r M1 => ansT M1 (truR M1 r)
def mAndT (a b : DT) : DT := fun δ M => (a δ M).bind fun c M1 => if c = true then b δ M1 else .ok false M1
def mOrT (a b : DT) : DT := fun δ M => (a δ M).bind fun c M1 => if c = true then .ok true M1 else b δ M1
def mNotT (a : DT) : DT := fun δ M => (a δ M).bind fun c M1 => .ok (!c) M1
def asB : RV → Option Bool
  | .v (.bl b) => some b
  | _ => none
theorem asB_ok {K : PySem.W.Frag} {ι : List Addr} {H : Hp} {r : RV} {v : V} {b : Bool} (h : RVR K ι H r v) (e : asB r = some b) : v = .bl b ∧ r = .v (.bl b) := by
  unfold asB at e
  split at e
  · cases e; exact ⟨vr_bl h, rfl⟩
  · cases e
def mAndV (a b : DE) : DE := fun δ M => (a δ M).bind fun r M1 => match asB r with
  | some c => if c = true then b δ M1 else .ok (.v (.bl false)) M1
  | none => .bad
def mOrV (a b : DE) : DE := fun δ M => (a δ M).bind fun r M1 => match asB r with
  | some c => if c = true then .ok (.v (.bl true)) M1 else b δ M1
  | none => .bad
def mNotV (a : DE) : DE := fun δ M => (a δ M).bind fun r M1 => match asB r with
  | some c => .ok (.v (.bl (!c))) M1
  | none => .bad
def mNeg (a : DE) : DE := fun δ M => (a δ M).bind fun r M1 => match r with
  | .v (.int i) => .ok (.v (.int (-i))) M1
  | _ => .bad
def mIte (c : DT) (a b : DE) : DE := fun δ M => (c δ M).bind fun k M1 => if k = true then a δ M1 else b δ M1
def mChain (g g' : DM → RV → RV → Option Bool) (a b c : DE) : DE := fun δ M => (a δ M).bind fun x M1 => (b δ M1).bind fun y M2 => match g M2 x y with
  | some true => (c δ M2).bind fun z M3 => ansB M3 (g' M3 y z)
  | some false => .ok (.v (.bl false)) M2
  | none => .bad
def mChainT (g g' : DM → RV → RV → Option Bool) (a b c : DE) : DT := fun δ M => (a δ M).bind fun x M1 => (b δ M1).bind fun y M2 => match g M2 x y with
  | some true => (c δ M2).bind fun z M3 => ansT M3 (g' M3 y z)
  | some false => .ok false M2
  | none => .bad
abbrev DA := DS → DM → Res (List DV)
def mNil : DA := fun _ M => .ok [] M
def mCons (m : DS → DM → Res DV) (ms : DA) : DA := fun δ M => (m δ M).bind fun d M1 => (ms δ M1).bind fun ds M2 => .ok (d :: ds) M2
abbrev DR := DS → DM → Res (List RV)
def mNilR : DR := fun _ M => .ok [] M
def mConsR (m : DE) (ms : DR) : DR := fun δ M => (m δ M).bind fun d M1 => (ms δ M1).bind fun ds M2 => .ok (d :: ds) M2
def mTup (ms : DA) : DE := fun δ M => (ms δ M).bind fun ds M1 => if ds.length ≤ LIM then .ok (.v (.tup ds)) M1 else .bad
def mLst (ms : DA) : DE := fun δ M => (ms δ M).bind fun ds M1 => if ds.length ≤ LIM then .ok (.lst ds) M1 else .bad
section
variable {X : Cx} {W : WX} {e a b c : Expr} {m ma mb mc : DE} {pos : Pos} {K : PySem.W.Frag} {σ : L2.St} {H : Hp}
theorem iv_tru (h : PE X e (tI X.K W m)) (he : ∀ whole, isTrue e X.env whole = (do let v ← whole; standAt e.pos; holding [v] (truthy v))) : PT X e (tIt X.K W (mTru m)) := pt_of (pt_truth h he) fun σ H Q ⟨ι, δ, M, hs, R, h⟩ => by
  refine ⟨ι, δ, M, hs, R, (Post.bind early_B hs R h).imp ?_⟩
  rintro v H1 ⟨x, ι1, M1, A1, hs1, R1, hx, h1⟩
  have h1 : Post X.K W σ ι1 H1 relB (ansT M1 (truR M1 x)) Q := h1
  cases e : truR M1 x with
  | none => rw [e] at h1; exact h1.elim
  | some k => rw [e] at h1; exact ⟨k, truR_ok R1 hx.1 e, Post.ret h1 R1 rfl⟩
theorem pw_of {X : Cx} {e : Expr} {t t' : TT} (h : PW X e t) (k : ∀ σ H Q, t' σ H Q → t σ H Q) : PW X e t' := ⟨fun wh pins s σ H Q I w => h.run wh pins s σ H Q I (k σ H Q w)⟩
variable {na nb : DT} {rest : List Expr}
theorem tI_andT {Q : Bool → Hp → Prop} : tIt K W (mAndT na nb) σ H Q → tAnd (tIt K W na) (tIt K W nb) σ H Q := fun ⟨ι, δ, M, hs, R, h⟩ => by
  refine ⟨ι, δ, M, hs, R, (Post.bind early_B hs R h).imp ?_⟩
  rintro v H1 ⟨x, ι1, M1, A1, hs1, R1, hx, h1⟩
  have hx : x = v := hx
  subst hx
  by_cases k : x = true
  · rw [if_pos k] at h1 ⊢; exact ⟨ι1, δ, M1, hs1, R1, h1⟩
  · rw [if_neg k] at h1 ⊢; exact Post.ret h1 R1 rfl
theorem tI_orT {Q : Bool → Hp → Prop} : tIt K W (mOrT na nb) σ H Q → tOr (tIt K W na) (tIt K W nb) σ H Q := fun ⟨ι, δ, M, hs, R, h⟩ => by
  refine ⟨ι, δ, M, hs, R, (Post.bind early_B hs R h).imp ?_⟩
  rintro v H1 ⟨x, ι1, M1, A1, hs1, R1, hx, h1⟩
  have hx : x = v := hx
  subst hx
  by_cases k : x = true
  · rw [if_pos k] at h1 ⊢; exact Post.ret h1 R1 rfl
  · rw [if_neg k] at h1 ⊢; exact ⟨ι1, δ, M1, hs1, R1, h1⟩
theorem iv_and1 (ha : PT X a (tIt X.K W na)) : PW X (.BoolOp .And [a] pos) (tIt X.K W na) := pw_and1 ha
theorem iv_or1 (ha : PT X a (tIt X.K W na)) : PW X (.BoolOp .Or [a] pos) (tIt X.K W na) := pw_or1 ha
theorem iv_andT (ha : PT X a (tIt X.K W na)) (hb : PW X (.BoolOp .And (b :: rest) pos) (tIt X.K W nb)) : PW X (.BoolOp .And (a :: b :: rest) pos) (tIt X.K W (mAndT na nb)) := pw_of (pw_and ha hb) fun _ _ _ => tI_andT
theorem iv_orT (ha : PT X a (tIt X.K W na)) (hb : PW X (.BoolOp .Or (b :: rest) pos) (tIt X.K W nb)) : PW X (.BoolOp .Or (a :: b :: rest) pos) (tIt X.K W (mOrT na nb)) := pw_of (pw_or ha hb) fun _ _ _ => tI_orT
theorem iv_notT (ha : PT X a (tIt X.K W na)) : PT X (.UnaryOp .Not a pos) (tIt X.K W (mNotT na)) := pt_of (pt_not ha) fun σ H Q ⟨ι, δ, M, hs, R, h⟩ => by
  refine ⟨ι, δ, M, hs, R, (Post.bind early_B hs R h).imp ?_⟩
  rintro v H1 ⟨x, ι1, M1, A1, hs1, R1, hx, h1⟩
  have hx : x = v := hx
  subst hx
  exact Post.ret h1 R1 rfl
theorem iv_one {op : BoolOp} (ha : PE X a (tI X.K W ma)) : PE X (.BoolOp op [a] pos) (tI X.K W ma) := pe_one ha
theorem iv_andV (ha : PE X a (tI X.K W ma)) (hb : PE X (.BoolOp .And (b :: rest) pos) (tI X.K W mb)) : PE X (.BoolOp .And (a :: b :: rest) pos) (tI X.K W (mAndV ma mb)) := pe_of (pe_and ha hb) fun σ H Q ⟨ι, δ, M, hs, R, h⟩ => by
  refine ⟨ι, δ, M, hs, R, (Post.bind early_E hs R h).imp ?_⟩
  rintro v H1 ⟨x, ι1, M1, A1, hs1, R1, hx, h1⟩
  split at h1
  · rename_i c ec
    obtain ⟨rfl, _⟩ := asB_ok hx.1 ec
    refine ⟨c, rfl, ?_⟩
    by_cases k : c = true
    · rw [if_pos k] at h1 ⊢; exact ⟨ι1, δ, M1, hs1, R1, h1⟩
    · rw [if_neg k] at h1 ⊢; exact Post.ret h1 R1 ⟨.v (.bl false), trivial⟩
  · exact h1.elim
theorem iv_orV (ha : PE X a (tI X.K W ma)) (hb : PE X (.BoolOp .Or (b :: rest) pos) (tI X.K W mb)) : PE X (.BoolOp .Or (a :: b :: rest) pos) (tI X.K W (mOrV ma mb)) := pe_of (pe_or ha hb) fun σ H Q ⟨ι, δ, M, hs, R, h⟩ => by
  refine ⟨ι, δ, M, hs, R, (Post.bind early_E hs R h).imp ?_⟩
  rintro v H1 ⟨x, ι1, M1, A1, hs1, R1, hx, h1⟩
  split at h1
  · rename_i c ec
    obtain ⟨rfl, _⟩ := asB_ok hx.1 ec
    refine ⟨c, rfl, ?_⟩
    by_cases k : c = true
    · rw [if_pos k] at h1 ⊢; exact Post.ret h1 R1 ⟨.v (.bl true), trivial⟩
    · rw [if_neg k] at h1 ⊢; exact ⟨ι1, δ, M1, hs1, R1, h1⟩
  · exact h1.elim
theorem iv_notV (ha : PE X a (tI X.K W ma)) : PE X (.UnaryOp .Not a pos) (tI X.K W (mNotV ma)) := pe_of (pe_not ha) fun σ H Q ⟨ι, δ, M, hs, R, h⟩ => by
  refine ⟨ι, δ, M, hs, R, (Post.bind early_E hs R h).imp ?_⟩
  rintro v H1 ⟨x, ι1, M1, A1, hs1, R1, hx, h1⟩
  split at h1
  · rename_i c ec
    obtain ⟨rfl, _⟩ := asB_ok hx.1 ec
    exact ⟨c, rfl, Post.ret h1 R1 ⟨.v (.bl _), trivial⟩⟩
  · exact h1.elim
theorem iv_neg (ha : PE X a (tI X.K W ma)) : PE X (.UnaryOp .USub a pos) (tI X.K W (mNeg ma)) := pe_of (pe_un un_neg ha) fun σ H Q ⟨ι, δ, M, hs, R, h⟩ => by
  refine ⟨ι, δ, M, hs, R, (Post.bind early_E hs R h).imp ?_⟩
  rintro v H1 ⟨x, ι1, M1, A1, hs1, R1, hx, h1⟩
  split at h1
  · cases vr_int hx.1
    exact ⟨_, rfl, Post.ret h1 R1 ⟨.v (.int _), trivial⟩⟩
  · exact h1.elim
theorem iv_ite {n : DT} (hc : PT X c (tIt X.K W n)) (ha : PE X a (tI X.K W ma)) (hb : PE X b (tI X.K W mb)) : PE X (.IfExp c a b pos) (tI X.K W (mIte n ma mb)) := pe_of (pe_ifExp hc ha hb) fun σ H Q ⟨ι, δ, M, hs, R, h⟩ => by
  refine ⟨ι, δ, M, hs, R, (Post.bind early_E hs R h).imp ?_⟩
  rintro v H1 ⟨x, ι1, M1, A1, hs1, R1, hx, h1⟩
  have hx : x = v := hx
  subst hx
  by_cases k : x = true
  · rw [if_pos k] at h1 ⊢; exact ⟨ι1, δ, M1, hs1, R1, h1⟩
  · rw [if_neg k] at h1 ⊢; exact ⟨ι1, δ, M1, hs1, R1, h1⟩
theorem tI_chain {g g' : DM → RV → RV → Option Bool} {Q : VK} : tI K W (mChain g g' ma mb mc) σ H Q → tChain (rI2b K g) (rI2b K g') (tI K W ma) (tI K W mb) (tI K W mc) σ H Q := fun ⟨ι, δ, M, hs, R, h⟩ => by
  refine ⟨ι, δ, M, hs, R, (Post.bind early_E hs R h).imp ?_⟩
  rintro v H1 ⟨x, ι1, M1, A1, hs1, R1, hx, h1⟩
  refine ⟨ι1, δ, M1, hs1, R1, (Post.bind early_E hs1 R1 h1).imp ?_⟩
  rintro w H2 ⟨y, ι2, M2, A2, hs2, R2, hy, h2⟩
  split at h2
  · rename_i e
    refine ⟨ι2, M2, x, y, true, R2, hx.1.aft R1 A2, hy.1, e, true, rfl, ?_⟩
    rw [if_pos rfl]
    refine ⟨ι2, δ, M2, hs2, R2, (Post.bind early_E hs2 R2 h2).imp ?_⟩
    rintro u H3 ⟨z, ι3, M3, A3, hs3, R3, hz, h3⟩
    have h3 : Post K W σ ι3 H3 (relE K) (ansB M3 (g' M3 y z)) Q := h3
    cases e3 : g' M3 y z with
    | none => rw [e3] at h3; exact h3.elim
    | some r => rw [e3] at h3; exact ⟨ι3, M3, y, z, r, R3, hy.1.aft R2 A3, hz.1, e3, Post.ret h3 R3 ⟨.v (.bl r), trivial⟩⟩
  · rename_i e
    refine ⟨ι2, M2, x, y, false, R2, hx.1.aft R1 A2, hy.1, e, false, rfl, ?_⟩
    rw [if_neg (by decide)]
    exact Post.ret h2 R2 ⟨.v (.bl false), trivial⟩
  · exact h2.elim
theorem tI_chainT {g g' : DM → RV → RV → Option Bool} {Q : Bool → Hp → Prop} : tIt K W (mChainT g g' ma mb mc) σ H Q → tTest (tChain (rI2b K g) (rI2b K g') (tI K W ma) (tI K W mb) (tI K W mc)) σ H Q := fun ⟨ι, δ, M, hs, R, h⟩ => by
  refine ⟨ι, δ, M, hs, R, (Post.bind early_B hs R h).imp ?_⟩
  rintro v H1 ⟨x, ι1, M1, A1, hs1, R1, hx, h1⟩
  refine ⟨ι1, δ, M1, hs1, R1, (Post.bind early_B hs1 R1 h1).imp ?_⟩
  rintro w H2 ⟨y, ι2, M2, A2, hs2, R2, hy, h2⟩
  split at h2
  · rename_i e
    refine ⟨ι2, M2, x, y, true, R2, hx.1.aft R1 A2, hy.1, e, true, rfl, ?_⟩
    rw [if_pos rfl]
    refine ⟨ι2, δ, M2, hs2, R2, (Post.bind early_B hs2 R2 h2).imp ?_⟩
    rintro u H3 ⟨z, ι3, M3, A3, hs3, R3, hz, h3⟩
    have h3 : Post K W σ ι3 H3 relB (ansT M3 (g' M3 y z)) Q := h3
    cases e3 : g' M3 y z with
    | none => rw [e3] at h3; exact h3.elim
    | some r => rw [e3] at h3; exact ⟨ι3, M3, y, z, r, R3, hy.1.aft R2 A3, hz.1, e3, r, rfl, Post.ret h3 R3 rfl⟩
  · rename_i e
    refine ⟨ι2, M2, x, y, false, R2, hx.1.aft R1 A2, hy.1, e, false, rfl, ?_⟩
    rw [if_neg (by decide)]
    exact ⟨false, rfl, Post.ret h2 R2 rfl⟩
  · exact h2.elim
theorem iv_chain {op op' : CmpOp} (hu : X.A.units + 65 < cLine) (ha : PE X a (tI X.K W ma)) (hb : PE X b (tI X.K W mb)) (hc : PE X c (tI X.K W mc)) (hm : lastMarks [op, op'] [b, c] = false) : PE X (.Compare a [op, op'] [b, c] pos) (tI X.K W (mChain (opCmp op) (opCmp op') ma mb mc)) := pe_of (pe_chain (opCmp_ok hu op) (opCmp_ok hu op') ha hb hc hm) fun _ _ _ => tI_chain
theorem iv_chainT {op op' : CmpOp} (hu : X.A.units + 65 < cLine) (ha : PE X a (tI X.K W ma)) (hb : PE X b (tI X.K W mb)) (hc : PE X c (tI X.K W mc)) (hm : lastMarks [op, op'] [b, c] = false) : PT X (.Compare a [op, op'] [b, c] pos) (tIt X.K W (mChainT (opCmp op) (opCmp op') ma mb mc)) := pt_of (pt_chain (opCmp_ok hu op) (opCmp_ok hu op') ha hb hc hm) fun _ _ _ => tI_chainT
/-! displays -/
theorem ia_nil : PA X [] (tIa X.K W mNil) := pa_of pa_nil fun σ H Q ⟨ι, δ, M, hs, R, h⟩ => Post.ret h R .nil
theorem ia_cons {n : DS → DM → Res DV} {ns : DA} {es : List Expr} (ha : PE X e (tIv X.K W n)) (hr : PA X es (tIa X.K W ns)) (hs : starEach (e :: es) X.env = (false, eval e X.env) :: starEach es X.env) : PA X (e :: es) (tIa X.K W (mCons n ns)) := pa_of (pa_cons ha hr hs) fun σ H Q ⟨ι, δ, M, hs, R, h⟩ => by
  refine ⟨ι, δ, M, hs, R, (Post.bind early_A hs R h).imp ?_⟩
  rintro v H1 ⟨x, ι1, M1, A1, hs1, R1, hx, h1⟩
  refine ⟨ι1, δ, M1, hs1, R1, (Post.bind early_A hs1 R1 h1).imp ?_⟩
  rintro w H2 ⟨y, ι2, M2, A2, hs2, R2, hy, h2⟩
  exact Post.ret h2 R2 (.cons (VR.aft R1 A2 hx) hy)
theorem ir_nil : PA X [] (tIr X.K W mNilR) := pa_of pa_nil fun σ H Q ⟨ι, δ, M, hs, R, h⟩ => Post.ret h R .nil
theorem ir_cons {n : DE} {ns : DR} {es : List Expr} (ha : PE X e (tI X.K W n)) (hr : PA X es (tIr X.K W ns)) (hs : starEach (e :: es) X.env = (false, eval e X.env) :: starEach es X.env) : PA X (e :: es) (tIr X.K W (mConsR n ns)) := pa_of (pa_cons ha hr hs) fun σ H Q ⟨ι, δ, M, hs, R, h⟩ => by
  refine ⟨ι, δ, M, hs, R, (Post.bind early_R hs R h).imp ?_⟩
  rintro v H1 ⟨x, ι1, M1, A1, hs1, R1, hx, h1⟩
  refine ⟨ι1, δ, M1, hs1, R1, (Post.bind early_R hs1 R1 h1).imp ?_⟩
  rintro w H2 ⟨y, ι2, M2, A2, hs2, R2, hy, h2⟩
  exact Post.ret h2 R2 (.cons (hx.1.aft R1 A2) hy)
theorem iv_tup {ns : DA} {es : List Expr} {x1 : Nat} (h : PA X es (tIa X.K W ns)) : PE X (.Tuple es x1 pos) (tI X.K W (mTup ns)) := pe_of (pe_tup h) fun σ H Q ⟨ι, δ, M, hs, R, h⟩ => by
  refine ⟨ι, δ, M, hs, R, (Post.bind early_E hs R h).imp ?_⟩
  rintro v H1 ⟨x, ι1, M1, A1, hs1, R1, hx, h1⟩
  have hx : VRs X.K ι1 H1 x v := hx
  split at h1
  · rename_i hl
    refine ⟨lim_line (by rw [← hx.length]; exact hl), fun p hp => ?_⟩
    have S := Same.new (u := .tup v) hp
    exact Post.same h1 R1 S ⟨.v (.tup (SqT.of upd_same) (hx.aft R1 (Aft.same S))), trivial⟩
  · exact h1.elim
theorem iv_lst {ns : DA} {es : List Expr} (h : PA X es (tIa X.K W ns)) : PE X (.List es pos) (tI X.K W (mLst ns)) := pe_of (pe_lst h) fun σ H Q ⟨ι, δ, M, hs, R, h⟩ => by
  refine ⟨ι, δ, M, hs, R, (Post.bind early_E hs R h).imp ?_⟩
  rintro v H1 ⟨x, ι1, M1, A1, hs1, R1, hx, h1⟩
  have hx : VRs X.K ι1 H1 x v := hx
  split at h1
  · rename_i hl
    refine ⟨lim_line (by rw [← hx.length]; exact hl), fun p hp => ?_⟩
    have S := Same.new (u := .lst v) hp
    exact Post.same h1 R1 S ⟨.lst (fun m => R1.there m hp) upd_same (hx.aft R1 (Aft.same S)), fun a e => by cases e; exact .inl hp⟩
  · exact h1.elim
theorem iv_dnew : PE X (.Dict [] [] pos) (tI X.K W fun _ M => .ok (.dic []) M) := pe_of pe_dnewK fun σ H Q ⟨ι, δ, M, hs, R, h⟩ p hp => by
  have S := Same.new (u := .dK []) hp
  exact Post.same h R S ⟨.dic (fun m => R.there m hp) upd_same .nil, fun a e => by cases e; exact .inl hp⟩
end

end
end Lk
end

section
set_option Elab.async false
set_option linter.all false
set_option maxRecDepth 100000
set_option maxHeartbeats 4000000
namespace Lk
open PySem PySem.Spec PyProof.Rows L2
noncomputable section
variable [Tbl] [Lnk]
/-! ### texts in order -/
def leS (x y : Str) : Prop := ¬ (y.cps.toList < x.cps.toList)
theorem leS_trans {x y z : Str} (h : leS x y) (g : leS y z) : leS x z := List.le_trans (l₁ := x.cps.toList) (l₂ := y.cps.toList) (l₃ := z.cps.toList) h g
theorem leS_antisymm {x y : Str} (h : leS x y) (g : leS y x) : x = y := by
  have e : x.cps.toList = y.cps.toList := List.le_antisymm h g
  obtain ⟨a⟩ := x
  obtain ⟨b⟩ := y
  simp only [Str.mk.injEq] at e ⊢
  exact Array.toList_inj.mp e
/-- risingS looks at neighbours only: with a first text ahead it says that neighbours are in order -/
theorem rising_two {p x : Str} {r : List Str} : PyProof.Rows.risingS p (x :: r) = true ↔ leS p x ∧ PyProof.Rows.risingS x r = true := by
  show (!ltCps x.cps.toList p.cps.toList && PyProof.Rows.risingS x r) = true ↔ _
  rw [Bool.and_eq_true, PyProof.Rows.ltCps_eq, Bool.not_eq_true', decide_eq_false_iff_not]
  exact Iff.rfl
theorem rising_ahead {p : Str} {r : List Str} (h : PyProof.Rows.risingS p r = true) : ∀ y ∈ r, leS p y := by
  induction r generalizing p with
  | nil => exact fun y hy => nomatch hy
  | cons x r more =>
    have ⟨px, xr⟩ := rising_two.mp h
    exact fun y hy => (List.mem_cons.mp hy).elim (fun e => e ▸ px) fun hm => leS_trans px (more xr y hm)
theorem sortedS_iff (l : List Str) : PyProof.Rows.sortedS l = true ↔ l.Pairwise leS := by
  induction l with
  | nil => exact ⟨fun _ => .nil, fun _ => rfl⟩
  | cons p r more =>
    have step : PyProof.Rows.risingS p r = true ↔ (∀ y ∈ r, leS p y) ∧ PyProof.Rows.sortedS r = true := by
      match r with
      | [] => exact ⟨fun _ => ⟨fun _ hy => absurd hy List.not_mem_nil, rfl⟩, fun _ => rfl⟩
      | x :: r => exact ⟨fun h => ⟨rising_ahead h, (rising_two.mp h).2⟩, fun ⟨a, s⟩ => rising_two.mpr ⟨a x List.mem_cons_self, s⟩⟩
    exact step.trans ((and_congr_right fun _ => more).trans List.pairwise_cons.symm)
/-- there is one order -/
theorem sortedS_one {xs ys zs : List Str} (h1 : ys.Perm xs) (s1 : PyProof.Rows.sortedS ys = true) (h2 : zs.Perm xs) (s2 : PyProof.Rows.sortedS zs = true) : ys = zs :=
  List.Perm.eq_of_pairwise (le := leS) (fun _ _ _ _ h g => leS_antisymm h g) ((sortedS_iff _).mp s1) ((sortedS_iff _).mp s2) (h1.trans h2.symm)
def leB (x y : Str) : Bool := !decide (y.cps.toList < x.cps.toList)
def srt (xs : List Str) : List Str := xs.mergeSort leB
theorem srt_perm (xs : List Str) : (srt xs).Perm xs := List.mergeSort_perm xs leB
theorem srt_sorted (xs : List Str) : PyProof.Rows.sortedS (srt xs) = true := by
  rw [sortedS_iff]
  have h := List.pairwise_mergeSort (le := leB) (fun a b c h g => by
    have h := of_decide_eq_false (Bool.not_eq_true' _ |>.mp h)
    have g := of_decide_eq_false (Bool.not_eq_true' _ |>.mp g)
    exact Bool.not_eq_true' _ |>.mpr (decide_eq_false (leS_trans (x := a) (y := b) (z := c) h g)))
    (fun a b => by
      rcases List.le_total a.cps.toList b.cps.toList with h | h
      · exact Bool.or_eq_true_iff.mpr (.inl (Bool.not_eq_true' _ |>.mpr (decide_eq_false h)))
      · exact Bool.or_eq_true_iff.mpr (.inr (Bool.not_eq_true' _ |>.mpr (decide_eq_false h)))) xs
  exact h.imp fun {a b} h => of_decide_eq_false (Bool.not_eq_true' _ |>.mp h)
theorem srt_eq {xs ys : List Str} (h : ys.Perm xs) (s : PyProof.Rows.sortedS ys = true) : ys = srt xs := sortedS_one h s (srt_perm xs) (srt_sorted xs)
/-- sorted(d), within a comprehension -/
def rSD : List V → Hp → VK → Prop := fun xs H Q => ∃ (a : Addr) (kvs : List (Key × V)) (ks : List Str), xs = [.ref a] ∧ Rd H a (.dK kvs) ∧ kvs.map (·.1) = ks.map Sum.inr ∧ ks.length < 64 ∧
  ∀ ys p, ys.Perm ks → sortedS ys = true → H p = none → Q (.ref p) (upd H p (.lst (ys.map V.str)))

/-! ## IV: parts of a thing, fields, built-in functions -/
section
variable {K : PySem.W.Frag} {ι : List Addr} {H : Hp} {M : DM}
theorem VRs.map_str : ∀ {ds : List DV} {vs : List V} {zs : List Str}, VRs K ι H ds vs → mapO (fun d => match d with | .str s => some s | _ => none) ds = some zs → vs = zs.map V.str
  | [], _, _, h, e => by cases h; cases e; rfl
  | d :: ds, _, _, h, e => by
    cases h with
    | cons r t =>
      unfold mapO at e
      split at e
      · rename_i b bs e1 e2
        cases e
        split at e1
        · cases e1; cases r; rw [VRs.map_str t e2]; rfl
        · cases e1
      · cases e
theorem VRs.drop : ∀ {ds : List DV} {vs : List V} (n : Nat), VRs K ι H ds vs → VRs K ι H (ds.drop n) (vs.drop n)
  | _, _, 0, h => h
  | [], [], _ + 1, .nil => .nil
  | _ :: _, _ :: _, n + 1, .cons _ t => VRs.drop n t
theorem VRs.take : ∀ {ds : List DV} {vs : List V} (n : Nat), VRs K ι H ds vs → VRs K ι H (ds.take n) (vs.take n)
  | _, _, 0, _ => .nil
  | [], [], _ + 1, .nil => .nil
  | _ :: _, _ :: _, n + 1, .cons r t => .cons r (VRs.take n t)
theorem VRs.rev {ds : List DV} {vs : List V} (h : VRs K ι H ds vs) : VRs K ι H ds.reverse vs.reverse := by
  induction ds generalizing vs with
  | nil => cases h; exact .nil
  | cons d ds ih => cases h with
    | cons r t => rw [List.reverse_cons, List.reverse_cons]; exact (ih t).append (.cons r .nil)
end
def strsO (ds : List DV) : Option (List Str) := mapO (fun d => match d with | .str s => some s | _ => none) ds
def intsO (ds : List DV) : Option (List Int) := mapO (fun d => match d with | .int s => some s | _ => none) ds
def boolsO (ds : List DV) : Option (List Bool) := mapO (fun d => match d with | .bl s => some s | _ => none) ds
theorem strsO_ok {K : PySem.W.Frag} {ι : List Addr} {H : Hp} {ds : List DV} {vs : List V} {zs : List Str} (h : VRs K ι H ds vs) (e : strsO ds = some zs) : vs = zs.map V.str := VRs.map_str h e
theorem intsO_ok {K : PySem.W.Frag} {ι : List Addr} {H : Hp} : ∀ {ds : List DV} {vs : List V} {zs : List Int}, VRs K ι H ds vs → intsO ds = some zs → vs = zs.map V.int
  | [], _, _, h, e => by cases h; cases e; rfl
  | d :: ds, _, _, h, e => by
    cases h with
    | cons r t =>
      unfold intsO mapO at e
      split at e
      · rename_i b bs e1 e2
        cases e
        split at e1
        · cases e1; cases r; rw [intsO_ok t e2]; rfl
        · cases e1
      · cases e
theorem boolsO_ok {K : PySem.W.Frag} {ι : List Addr} {H : Hp} : ∀ {ds : List DV} {vs : List V} {zs : List Bool}, VRs K ι H ds vs → boolsO ds = some zs → vs = zs.map V.bl
  | [], _, _, h, e => by cases h; cases e; rfl
  | d :: ds, _, _, h, e => by
    cases h with
    | cons r t =>
      unfold boolsO mapO at e
      split at e
      · rename_i b bs e1 e2
        cases e
        split at e1
        · cases e1; cases r; rw [boolsO_ok t e2]; rfl
        · cases e1
      · cases e
/-! ### x[y] -/
/-- written tables: their name, a key, what stands there -/
abbrev Tabs := List (Str × List (Str × DV))
def opIx (T : Tabs) (M : DM) (x y : RV) : Option RV := match x, y with
  | .v (.str s), .v (.int i) => if s.length ≤ LIM then (atI s.cps.toList i).map fun c => .v (.str ⟨#[c]⟩) else none
  | .v (.glo g), .v (.str z) => (T.lookup g).bind fun t => (t.lookup z).map .v
  | x, y => match asS M x, y with
    | some ds, .v (.int i) => (atI ds i).map .v
    | _, y => match asD M x, keyOf y with
      | some kvs, some k => (valD kvs k).map .v
      | _, _ => none
/-- what the written tables hold -/
def TabsOk (T : Tabs) (K : PySem.W.Frag) (w : World) : Prop := ∀ g t z d, T.lookup g = some t → t.lookup z = some d → ∃ v, KDct K w (He.ga K g) z v ∧ ∀ ι H, VR K ι H d v
theorem atI_ok {K : PySem.W.Frag} {ι : List Addr} {H : Hp} {ds : List DV} {xs : List V} {i : Int} {d : DV} (h : VRs K ι H ds xs) (e : atI ds i = some d) : ∃ v, atI xs i = some v ∧ VR K ι H d v := by
  unfold atI at e ⊢
  rw [← h.length]
  cases q : ixN ds.length i with
  | none => rw [q] at e; cases e
  | some j => rw [q] at e; exact h.get e
section
variable {X : Cx} {W : WX}
theorem ix_dictG (hu : X.A.units + 1 < cLine) : IxR X (fun x y H Q => ∃ a v, x = .ref a ∧ DGet H a y (some v) ∧ Q v H) := by
  intro value slice pins s σ H x y v u Q I rx ry ⟨a, w, e, g, q⟩ hs
  subst e; cases rx
  exact tail_any (dict_typeIs I g) PySem.F.slot_dict_getitem.lookup (d_getItem hu I g ry fun w' s3 I3 rw' => ⟨w, H, I3, rw', q⟩) hs
theorem opIx_ok {T : Tabs} (hT : TabsOk T X.K X.w) (hu : X.A.units + 65 < cLine) : IxR X (rI2 X.K (opIx T)) := by
  intro value slice pins s σ H x y v u Q I rx ry ⟨ι, M, a, b, r, R, ha, hb, e, k⟩ hs
  unfold opIx at e
  split at e
  · split at e
    · rename_i hl
      simp only [Option.map_eq_some_iff] at e
      obtain ⟨c, e, rfl⟩ := e
      cases vr_str ha; cases vr_int hb
      exact ix_str value slice pins s σ H _ _ v u Q I rx ry ⟨_, _, c, rfl, rfl, lim_line hl, e, k _ H (Same.refl H) (.v (.str _)) trivial⟩ hs
    · cases e
  · rename_i g z
    simp only [Option.bind_eq_some_iff, Option.map_eq_some_iff] at e
    obtain ⟨t, e1, d, e2, rfl⟩ := e
    obtain ⟨w', h1, h2⟩ := hT _ _ _ _ e1 e2
    have hx : x = .ref (He.ga X.K g) := by cases ha with | v h => cases h; rfl
    cases vr_str hb
    subst hx
    exact ix_kdict value slice pins s σ H _ _ v u Q I rx ry ⟨_, _, w', rfl, rfl, h1, k _ H (Same.refl H) (.v (h2 _ _)) trivial⟩ hs
  · split at e
    · simp only [Option.map_eq_some_iff] at e
      obtain ⟨d, e, rfl⟩ := e
      obtain ⟨p, xs, rfl, hq, t⟩ := asS_ok R ha ‹asS M _ = some _›
      cases vr_int hb
      obtain ⟨w', h1, h2⟩ := atI_ok t e
      have fin := k _ H (Same.refl H) (.v h2) trivial
      rcases hq with hq | hq
      · exact ix_list value slice pins s σ H _ _ v u Q I rx ry ⟨p, xs, _, w', rfl, rfl, hq, h1, fin⟩ hs
      · exact ix_tup value slice pins s σ H _ _ v u Q I rx ry ⟨p, xs, _, w', rfl, rfl, hq, h1, fin⟩ hs
    · split at e
      · rename_i kvs kk e1 e2
        simp only [Option.map_eq_some_iff] at e
        obtain ⟨d, e, rfl⟩ := e
        obtain ⟨p, es, rfl, rd, t⟩ := asD_ok R ha e1
        cases keyOf_ok hb e2
        obtain ⟨w', h1, h2⟩ := valD_some t e
        exact ix_dictG (by omega) value slice pins s σ H _ _ v u Q I rx ry ⟨p, w', rfl, by have q := dget_rd rd kk; rw [h1] at q; exact q, k _ H (Same.refl H) (.v h2) trivial⟩ hs
      · cases e
theorem iv_ix {T : Tabs} {a b : Expr} {ma mb : DE} {pos : Pos} (hT : TabsOk T X.K X.w) (hu : X.A.units + 65 < cLine) (ha : PE X a (tI X.K W ma)) (hb : PE X b (tI X.K W mb)) (hs : PlainIx b) : PE X (.Subscript a b pos) (tI X.K W (mBin (opIx T) ma mb)) := pe_of (pe_ix (opIx_ok hT hu) ha hb hs) fun _ _ _ => tI_op
end
/-! ### x[lo:hi], x[::-1] -/
abbrev DO := DS → DM → Res (Option Int)
def relO : RelT (Option Int) (Option Int) := fun _ _ _ a b => a = b
theorem early_O : Early relO := ⟨fun _ _ h => h⟩
def mNoPart : DO := fun _ M => .ok none M
def mPart (m : DE) : DO := fun δ M => (m δ M).bind fun r M1 => match r with
  | .v (.int i) => .ok (some i) M1
  | _ => .bad
def cutD (xs : List DV) (lo hi : Option Int) : List DV := (xs.drop (HT.sIx xs.length 0 lo)).take (HT.sIx xs.length xs.length hi - HT.sIx xs.length 0 lo)
def opSl (M : DM) (x : RV) (lo hi : Option Int) : Option RV := match x with
  | .v (.str s) => if s.length ≤ LIM then some (.v (.str (cutS s lo hi))) else none
  | .v (.tup ds) => some (.v (.tup (cutD ds lo hi)))
  | x => (asL M x).map fun ds => .lst (cutD ds lo hi)
def mSl (m : DE) (lo hi : DO) : DE := fun δ M => (m δ M).bind fun x M1 => (lo δ M1).bind fun l M2 => (hi δ M2).bind fun h M3 => ansR M3 (opSl M3 x l h)
def mRev (m : DE) : DE := fun δ M => (m δ M).bind fun x M1 => ansR M1 ((asL M1 x).map fun ds => .lst ds.reverse)
theorem cut_len {K : PySem.W.Frag} {ι : List Addr} {H : Hp} {ds : List DV} {xs : List V} (h : VRs K ι H ds xs) (lo hi : Option Int) : VRs K ι H (cutD ds lo hi) (cutV xs lo hi) := by
  unfold cutD cutV
  rw [h.length]
  exact (h.drop _).take _
def rI3 (K : PySem.W.Frag) (g : DM → RV → Option Int → Option Int → Option RV) : V → Option Int → Option Int → Hp → VK → Prop := fun x lo hi H Q => ∃ ι M a r, Rep K ι H M ∧ RVR K ι H a x ∧ g M a lo hi = some r ∧ ∀ v H', Same H H' → RVR K ι H' r v → Fresh H r v → Q v H'
section
variable {X : Cx} {W : WX}
theorem opSl_ok : SlR X (rI3 X.K opSl) := by
  intro pins s σ H x v vl vu lo hi sl Q I rx hsl pl pu ⟨ι, M, a, r, R, ha, e, k⟩
  unfold opSl at e
  split at e
  · split at e
    · rename_i hl
      cases e; cases vr_str ha
      exact sl_str pins s σ H _ v vl vu lo hi sl Q I rx hsl pl pu ⟨_, rfl, lim_line hl, k _ H (Same.refl H) (.v (.str _)) trivial⟩
    · cases e
  · cases e
    obtain ⟨p, xs, rfl, hp, t⟩ := vr_tup ha
    refine sl_tupA pins s σ H _ v vl vu lo hi sl Q I rx hsl pl pu ⟨p, xs, rfl, hp, fun z => ?_, fun _ q hq => ?_⟩
    · have e : cutV xs lo hi = xs := by unfold cutV; rw [z.1, z.2]; simp
      have c := cut_len t lo hi
      rw [e] at c
      exact k _ H (Same.refl H) (.v (.tup hp c)) trivial
    · have S := Same.new (u := .tup (cutV xs lo hi)) hq
      exact k _ _ S (.v (.tup (SqT.of upd_same) ((cut_len t lo hi).aft R (Aft.same S)))) trivial
  · simp only [Option.map_eq_some_iff] at e
    obtain ⟨ds, e, rfl⟩ := e
    obtain ⟨p, xs, rfl, hp, t⟩ := asL_ok R ha e
    refine sl_list pins s σ H _ v vl vu lo hi sl Q I rx hsl pl pu ⟨p, xs, rfl, hp, fun q hq => ?_⟩
    have S := Same.new (u := .lst (cutV xs lo hi)) hq
    exact k _ _ S (.lst (fun m => R.there m hq) upd_same ((cut_len t lo hi).aft R (Aft.same S))) fun a e => by cases e; exact .inl hq
theorem io_none {K : PySem.W.Frag} : PO X none (tG K W relO mNoPart) := ⟨fun pins s σ H Q I ⟨ι, δ, M, hs, R, h⟩ => po_none.run pins s σ H Q I (Post.ret h R rfl)⟩
theorem io_some {e : Expr} {m : DE} (h : PE X e (tI X.K W m)) : PO X (some e) (tG X.K W relO (mPart m)) := ⟨fun pins s σ H Q I ⟨ι, δ, M, hs, R, hh⟩ => (po_some h).run pins s σ H Q I ⟨ι, δ, M, hs, R, (Post.bind early_O hs R hh).imp (by
  rintro v H1 ⟨x, ι1, M1, A1, hs1, R1, hx, h1⟩
  split at h1
  · cases vr_int hx.1
    exact ⟨_, rfl, Post.ret h1 R1 rfl⟩
  · exact h1.elim)⟩⟩
theorem iv_sl {e : Expr} {lo hi : Option Expr} {m : DE} {ml mh : DO} {p2 pos : Pos} (he : PE X e (tI X.K W m)) (hl : PO X lo (tG X.K W relO ml)) (hh : PO X hi (tG X.K W relO mh)) : PE X (.Subscript e (.Slice lo hi none p2) pos) (tI X.K W (mSl m ml mh)) := pe_of (pe_slice opSl_ok he hl hh) fun σ H Q ⟨ι, δ, M, hs, R, h⟩ => by
  refine ⟨ι, δ, M, hs, R, (Post.bind early_E hs R h).imp ?_⟩
  rintro v H1 ⟨x, ι1, M1, A1, hs1, R1, hx, h1⟩
  refine ⟨ι1, δ, M1, hs1, R1, (Post.bind early_E hs1 R1 h1).imp ?_⟩
  rintro w H2 ⟨l, ι2, M2, A2, hs2, R2, hy, h2⟩
  have hy : l = w := hy
  subst hy
  refine ⟨ι2, δ, M2, hs2, R2, (Post.bind early_E hs2 R2 h2).imp ?_⟩
  rintro w H3 ⟨u, ι3, M3, A3, hs3, R3, hz, h3⟩
  have hz : u = w := hz
  subst hz
  have h3 : Post X.K W σ ι3 H3 (relE X.K) (ansR M3 (opSl M3 x l u)) Q := h3
  cases e3 : opSl M3 x l u with
  | none => rw [e3] at h3; exact h3.elim
  | some r => rw [e3] at h3; exact ⟨ι3, M3, x, r, R3, (hx.1.aft R1 A2).aft R2 A3, e3, fun v H' S r' f => Post.same h3 R3 S ⟨r', f⟩⟩
theorem iv_rev {e : Expr} {m : DE} {k : Nat} {p1 p2 p3 pos : Pos} (he : PE X e (tI X.K W m)) : PE X (.Subscript e (.Slice none none (some (.UnaryOp .USub (.Constant (.int 1) k p1) p2)) p3) pos) (tI X.K W (mRev m)) := pe_of (pe_revL he) fun σ H Q ⟨ι, δ, M, hs, R, h⟩ => by
  refine ⟨ι, δ, M, hs, R, (Post.bind early_E hs R h).imp ?_⟩
  rintro v H1 ⟨x, ι1, M1, A1, hs1, R1, hx, h1⟩
  have h1 : Post X.K W σ ι1 H1 (relE X.K) (ansR M1 ((asL M1 x).map fun ds => .lst ds.reverse)) Q := h1
  cases e1 : asL M1 x with
  | none => rw [e1] at h1; exact h1.elim
  | some ds =>
    rw [e1] at h1
    obtain ⟨p, xs, rfl, hp, t⟩ := asL_ok R1 hx.1 e1
    refine ⟨p, xs, rfl, hp, fun q hq => ?_⟩
    have S := Same.new (u := .lst xs.reverse) hq
    exact Post.same h1 R1 S ⟨.lst (fun m => R1.there m hq) upd_same (t.rev.aft R1 (Aft.same S)), fun a e => by cases e; exact .inl hq⟩
end
/-! ### o.f -/
def valF (fs : List (Str × DV)) (f : Str) : Option DV := fs.lookup f
theorem valF_ok {K : PySem.W.Frag} {ι : List Addr} {H : Hp} {fs : List (Str × DV)} {es : List (Str × V)} (h : FR K ι H fs es) {f : Str} {d : DV} (e : fs.lookup f = some d) : ∃ v, es.lookup f = some v ∧ VR K ι H d v := by
  induction h with
  | nil => cases e
  | @cons p q ps qs h t ih =>
    obtain ⟨pn, pv⟩ := p
    obtain ⟨qn, qv⟩ := q
    obtain ⟨h1, h2⟩ := h
    have h1 : pn = qn := h1
    subst h1
    rw [List.lookup_cons] at e ⊢
    cases z : f == pn with
    | true => rw [z] at e; cases e; exact ⟨_, rfl, h2⟩
    | false => rw [z] at e; exact ih e
theorem lookF_none {K : PySem.W.Frag} {ι : List Addr} {H : Hp} {fs : List (Str × DV)} {es : List (Str × V)} (h : FR K ι H fs es) {f : Str} (e : fs.lookup f = none) : es.lookup f = none := by
  induction h with
  | nil => rfl
  | @cons p q ps qs h t ih =>
    obtain ⟨pn, pv⟩ := p
    obtain ⟨qn, qv⟩ := q
    obtain ⟨h1, h2⟩ := h
    have h1 : pn = qn := h1
    subst h1
    rw [List.lookup_cons] at e ⊢
    cases z : f == pn with
    | true => rw [z] at e; cases e
    | false => rw [z] at e; exact ih e
/-- an instance -/
def asI (M : DM) : RV → Option (Str × List (Str × DV))
  | .v (.obj n) => match M[n]? with
    | some (.ins c fs) => some (c, fs)
    | _ => none
  | _ => none
theorem asI_ok {K : PySem.W.Frag} {ι : List Addr} {H : Hp} {M : DM} (R : Rep K ι H M) {r : RV} {v : V} {c : Str} {fs : List (Str × DV)} (h : RVR K ι H r v) (e : asI M r = some (c, fs)) : ∃ a dx es, v = .ref a ∧ H a = some (.ins (He.ga K c) dx es) ∧ FR K ι H fs es := by
  cases h with
  | lst n g t => cases e
  | dic n g t => cases e
  | v h => cases h with
    | @obj n a hn =>
      simp only [asI] at e
      split at e
      · rename_i hm
        cases e
        obtain ⟨u, g, dx, es, rfl, t⟩ := R.at_ _ _ _ hn hm
        exact ⟨a, dx, es, rfl, g, t⟩
      · cases e
    | _ => simp [asI] at e
def mFld (fld : Str → Str → Bool) (f : Str) (m : DE) : DE := fun δ M => (m δ M).bind fun x M1 => match asI M1 x with
  | some (c, fs) => if fld c f = true then ansR M1 ((fs.lookup f).map .v) else .bad
  | none => .bad
section
variable {X : Cx} {W : WX}
theorem iv_fld {fld : Str → Str → Bool} {e : Expr} {f : Str} {m : DE} {pos : Pos} (hF : ∀ c f, fld c f = true → Cls X.K (He.ga X.K c) ∧ NoAttr X.K (He.ga X.K c) f) (he : PE X e (tI X.K W m)) (hb : attributeBase e f X.env (eval e X.env) = eval e X.env) : PE X (.Attribute e f pos) (tI X.K W (mFld fld f m)) := pe_of (pe_fld he hb) fun σ H Q ⟨ι, δ, M, hs, R, h⟩ => by
  refine ⟨ι, δ, M, hs, R, (Post.bind early_E hs R h).imp ?_⟩
  rintro v H1 ⟨x, ι1, M1, A1, hs1, R1, hx, h1⟩
  split at h1
  · rename_i c fs ei
    split at h1
    · rename_i hf
      obtain ⟨a, dx, es, rfl, g, t⟩ := asI_ok R1 hx.1 ei
      have h1 : Post X.K W σ ι1 H1 (relE X.K) (ansR M1 ((fs.lookup f).map .v)) Q := h1
      cases el : fs.lookup f with
      | none => rw [el] at h1; exact h1.elim
      | some d =>
        rw [el] at h1
        obtain ⟨w, e1, e2⟩ := valF_ok t el
        exact ⟨a, _, dx, es, w, rfl, g, (hF c f hf).1, (hF c f hf).2, e1, Post.ret h1 R1 ⟨.v e2, trivial⟩⟩
    · exact h1.elim
  · exact h1.elim
end

end
end Lk
end

section
set_option Elab.async false
set_option linter.all false
set_option maxRecDepth 100000
set_option maxHeartbeats 4000000
namespace Lk
open PySem PySem.Spec PyProof.Rows L2
noncomputable section
variable [Tbl] [Lnk]
/-! ### defs that ask repr: they run where no repr is under way -/
structure FnG (P : Program) (w : World) (K : PySem.W.Frag) (mg : Str → Option Value) (base : Heap) (CX : CXT) (k : Nat) (f : Addr) (fd : FuncData) (ps : List Str) (sp : Sp) : Prop where
  len : ∀ vs H Q E, sp vs H Q E → vs.length = ps.length
  run : ∀ (A : Around) (outer : List Env) (s : Shared) (H : Hp) (args : Args) (us : List Value) (vs : List V) (Q : VK) (E : XK), Room k A → A.guards = some [] →
    Env0 P w K mg base A outer s H → BindsTo s fd args (ps.zip us) → Vals vs us → sp vs H Q E →
      codeAny (model P w) A (.call (.ref f) args) (CR CX outer P w H s Q E) s
section
variable {P : Program} {w : World} {K : PySem.W.Frag} {mg : Str → Option Value} {base : Heap} {CX : CXT} {k : Nat} {f : Addr} {fd : FuncData} {ps : List Str} {sp : Sp}
/-- more room does no harm -/
theorem FnG.mono {j : Nat} (F : FnG P w K mg base CX j f fd ps sp) (le : j ≤ k) : FnG P w K mg base CX k f fd ps sp where
  len := F.len
  run A outer s H args us vs Q E room := F.run A outer s H args us vs Q E (room.mono le)
/-- a def's body walked there: the body is asked at the def's own code value, whatever is known of it (Z) -/
theorem okAt {x qual : Str} {params : Arguments} {body : List Stmt} {scope : Scope} {dvs : List V} {kws : List (Str × V)} {N : List Str} {Z : Value → Prop} (F : FunD K x qual params body scope dvs kws f fd) (S : FnScope N ps scope)
    (known : ∀ {cdv : Value} {oc dV kV doc pm ct : Value} {an od : Option Addr} {osl : Array (Option Value)}, K.lookup f = some ⟨oc, od, .func (PySem.W.fnOf x qual params body scope dV kV doc pm an cdv ct), osl⟩ → PySem.W.codeIn K cdv qual = true → Z cdv)
    (len : ∀ vs H Q E, sp vs H Q E → vs.length = ps.length)
    (walk : ∀ (cdv : Value), Z cdv → ∀ (A : Around) (outer : List Env) (s : Shared) (H : Hp) (vs : List V) (Q : VK) (E : XK), Room k (A.deeper (envOfC qual scope s.heap.objs.size f cdv)) → A.guards = some [] → sp vs H Q E →
      ∃ t, PSs (cxOf CX P w K mg base N qual scope f cdv A outer s H E) body t ∧ t { nx := fun _ H' => Q .non H', rt := Q } (L2.start N vs) H) : FnG P w K mg base CX (k + 1) f fd ps sp := by
  obtain ⟨_, _, _, _, _, _, _, cdv, _, _, rfl, there, code, _⟩ := F.ex
  exact { len := len, run := fun A outer s H args us vs Q E room quiet env bind_ vals want => LamX.run_ofS there code S room env bind_ vals (len _ _ _ _ want) fun room1 => walk cdv (known there code) A outer s H vs Q E room1 quiet want }
theorem okG {x qual : Str} {params : Arguments} {body : List Stmt} {scope : Scope} {dvs : List V} {kws : List (Str × V)} {N : List Str} (F : FunD K x qual params body scope dvs kws f fd) (S : FnScope N ps scope) (len : ∀ vs H Q E, sp vs H Q E → vs.length = ps.length)
    (walk : ∀ (cdv : Value) (A : Around) (outer : List Env) (s : Shared) (H : Hp) (vs : List V) (Q : VK) (E : XK), Room k (A.deeper (envOfC qual scope s.heap.objs.size f cdv)) → A.guards = some [] → sp vs H Q E →
      ∃ t, PSs (cxOf CX P w K mg base N qual scope f cdv A outer s H E) body t ∧ t { nx := fun _ H' => Q .non H', rt := Q } (L2.start N vs) H) : FnG P w K mg base CX (k + 1) f fd ps sp :=
  okAt (Z := fun _ => True) F S (fun _ _ => trivial) len fun cdv _ => walk cdv
end
/-- what a run of it leaves is what its caller's reading asks -/
theorem FnG.told {X : Cx} {CX : CXT} {k : Nat} {f : Addr} {fd : FuncData} {ps : List Str} {sp : Sp} {dvs : List V} {ds us : List Value} {vs : List V} {E : XK} {pins : List (Addr × Obj)} {σ : L2.St} {H : Hp} {s : Shared} {Q : VK} (F : FnG X.prog X.w X.K X.mg X.base CX k f fd ps sp) (room : Room k X.A) (quiet : X.A.guards = some [])
    (bind_ : L2.Binds X.K fd ps ds) (dflt : Vals dvs ds) (pass : Passes CX X E) (I : Inv X pins σ H s) (vals : Vals vs us) (want : sp (vs ++ dvs) H Q E) : wpAny (model X.prog X.w) X.A (call (.ref f) us) (EP X pins σ Q) X.xe s :=
  have all := vals.append dflt
  wpAny_call <| codeAny_mono (F.run X.A X.stack s H ⟨us, []⟩ _ _ Q E room quiet I.env0 (bind_ s us I.kIn (all.length ▸ F.len _ _ _ _ want)) all want) fun r s' done => match r, done with
    | .error er, done => pass pins σ H s er s' I done
    | .ok (.ret u), done => I.after done
/-- its call -/
theorem pe_callG {X : Cx} {CX : CXT} {k : Nat} {f : Addr} {fd : FuncData} {ps : List Str} {sp : Sp} {dvs : List V} {ds : List Value} {E : XK} {x : Str} {p pos : Pos} {e : Expr} {es : List Expr} {t : TA}
    (F : FnG X.prog X.w X.K X.mg X.base CX k f fd ps sp) (hr : Room k X.A) (hG : X.A.guards = some []) (hg : Gl X x) (hm : X.mg x = some (.ref f)) (hk : PySem.W.keepIn X.K (.ref f) = true) (hb : L2.Binds X.K fd ps ds) (hd : Vals dvs ds)
    (hx : Passes CX X E) (ha : PA X (e :: es) t) (hdb : (x == ("__debug__" : Str)) = false := by decide) (he : starEach (e :: es) X.env = (false, eval e X.env) :: starEach es X.env := by rfl)
    (hpl : (backTo pos (starEach es X.env)).any (·.1) = false := by rfl) : PE X (.Call (.Name x p) (e :: es) [] pos) (tCall sp dvs E t) :=
  ⟨fun pins s σ H Q I want => wpAny_Call_Name_kw <| ld_glob I hg hm (PySem.W.callWith_K (h₀ := X.base) I.ok.mod.kin hk (thn (ha.run pos pins s σ H _ I want) fun us s1 ⟨vs, H1, I1, vals, want1⟩ => ⟨I1.kIn, F.told hr hG hb hd hx I1 vals want1⟩) he hpl) hdb⟩
/-! ### what repr shows: v is the data d, in every state that H tells -/
def Shw (K : PySem.W.Frag) (H : Hp) (v : V) (d : PyData) : Prop := ∀ (X : Cx) (pins : List (Addr × Obj)) (σ : L2.St) (s : Shared) (u : Value), X.K = K → Inv X pins σ H s → RelV v u → ∃ as, Reads s.heap u d as ∧ sysModules ∉ as
theorem shw_flat {K : PySem.W.Frag} {H : Hp} {v : V} (h : flat v) : Shw K H v (dOf v) := fun X pins σ s u _ I r => by
  cases v with
  | non => cases r; exact ⟨_, .none, by simp⟩
  | bl b => cases r; exact ⟨_, .bool b, by simp⟩
  | int i => obtain ⟨t, rfl⟩ := r; exact ⟨_, .int i t, by simp⟩
  | str z => obtain ⟨t, rfl⟩ := r; exact ⟨_, .str z t, by simp⟩
  | byt _ => exact h.elim
  | flt _ => exact h.elim
  | ref _ => exact h.elim
  | ty _ => exact h.elim
theorem shw_all {K : PySem.W.Frag} {H : Hp} {X : Cx} {pins : List (Addr × Obj)} {σ : L2.St} {s : Shared} (e : X.K = K) (I : Inv X pins σ H s) : ∀ {xs : List V} {ds : List PyData} {us : List Value}, Paired (Shw K H) xs ds → Vals xs us → ∃ as, ReadsAll s.heap us ds as ∧ sysModules ∉ as
  | _, _, _, .nil, .nil => ⟨_, .nil, by simp⟩
  | _, _, _, .cons h t, .cons r q => by
    obtain ⟨as, h1, h2⟩ := h X pins σ s _ e I r
    obtain ⟨bs, h3, h4⟩ := shw_all e I t q
    exact ⟨_, .cons h1 h3, by simp [h2, h4]⟩
theorem shw_tup {K : PySem.W.Frag} {H : Hp} {a : Addr} {xs : List V} {ds : List PyData} (h : SqT K H a xs) (hs : Paired (Shw K H) xs ds) : Shw K H (.ref a) (.tuple ds) := fun X pins σ s u e I r => by
  cases r
  subst e
  obtain ⟨its, rv, ⟨o, ho, hc, n, hd⟩, _⟩ := I.tuple h
  obtain ⟨as, h1, h2⟩ := shw_all rfl I hs rv
  exact ⟨_, .tuple ho hc hd h1, h2⟩
theorem shw_lst {K : PySem.W.Frag} {H : Hp} {a : Addr} {xs : List V} {ds : List PyData} (h : SqL K H a xs) (n1 : a ≠ sysModules) (hs : Paired (Shw K H) xs ds) : Shw K H (.ref a) (.list ds) := fun X pins σ s u e I r => by
  cases r
  subst e
  obtain ⟨its, rv, ⟨o, n, ho, hc, _, hd⟩, _⟩ := I.list h
  obtain ⟨as, h1, h2⟩ := shw_all rfl I hs rv
  exact ⟨_, .list ho hc hd h1, by simp [h2, Ne.symm n1]⟩
/-- the data of a key -/
def kD : Key → PyData
  | .inl i => .int i
  | .inr x => .str x
theorem pairs_read {P : Program} {w : World} {h : Heap} : ∀ {es : List DictEntry} {kvs : List (Key × Value)}, Pairs (mixKind P w) es kvs → ReadsAll h (es.map (·.key)) (kvs.map fun p => kD p.1) []
  | _, _, .nil => .nil
  | _, _, .cons (e := e) (kv := kv) hk _ t => by
    have q := pairs_read (h := h) t
    have hk' : keyIs kv.1 e.key = true := hk
    have r : Reads h e.key (kD kv.1) [] := by
      rcases keyIs_shape hk' with ⟨i, t, e1, e2⟩ | ⟨x, t, e1, e2⟩
      · rw [e1, e2]; exact .int i t
      · rw [e1, e2]; exact .str x t
    exact .cons r q
theorem pairs_vals {P : Program} {w : World} : ∀ {es : List DictEntry} {kvs : List (Key × Value)}, Pairs (mixKind P w) es kvs → es.map (·.val) = kvs.map (·.2)
  | _, _, .nil => rfl
  | _, _, .cons _ hv t => by rw [List.map_cons, List.map_cons, hv, pairs_vals t]
theorem kv_split : ∀ {kvs : List (Key × V)} {vs : List (Key × Value)}, KV kvs vs → kvs.map (·.1) = vs.map (·.1) ∧ Vals (kvs.map (·.2)) (vs.map (·.2))
  | _, _, .nil => ⟨rfl, .nil⟩
  | _, _, .cons h t => by
    obtain ⟨h1, h2⟩ := kv_split t
    exact ⟨by rw [List.map_cons, List.map_cons, h.1, h1], .cons h.2 h2⟩
theorem shw_dic {K : PySem.W.Frag} {H : Hp} {a : Addr} {kvs : List (Key × V)} {ps : List (PyData × PyData)} (h : H a = some (.dK kvs)) (h1 : ps.map (·.1) = kvs.map fun p => kD p.1) (hs : Paired (Shw K H) (kvs.map (·.2)) (ps.map (·.2))) : Shw K H (.ref a) (.dict ps) := fun X pins σ s u e I r => by
  cases r
  subst e
  obtain ⟨_, n1, vs, kv, o, es, ep, ho, hx, hd, _, pr, _⟩ := I.hok a _ h
  obtain ⟨k1, k2⟩ := kv_split kv
  have q1 := pairs_read (h := s.heap) pr
  have q2 := pairs_vals pr
  obtain ⟨as, r1, r2⟩ := shw_all rfl I hs k2
  have e1 : (vs.map fun p => kD p.1) = ps.map (·.1) := by
    rw [h1]
    have : (vs.map (·.1)).map kD = (kvs.map (·.1)).map kD := by rw [k1]
    rw [List.map_map, List.map_map] at this; exact this
  rw [e1] at q1
  rw [← q2] at r1
  refine ⟨_, .dict ho hx.1 hd q1 r1, ?_⟩
  have n1' : a ≠ sysModules := by simpa using n1
  simp [r2, Ne.symm n1']
/-- repr(v) -/
def rRepr (K : PySem.W.Frag) : List V → Hp → VK → Prop := fun xs H Q => ∃ (v : V) (d : PyData), xs = [v] ∧ Shw K H v d ∧ d.showable = true ∧ d.depth ≤ 60 ∧ d.shown.length ≤ sizeLine ∧ Q (.str d.shown) H
theorem call_repr {X : Cx} (hG : X.A.guards = some []) (hu : X.A.units + 64 < cLine) : CallR X (.builtin "repr") (rRepr X.K) := by
  intro pins s σ H xs us Q I r h
  obtain ⟨v, d, rfl, hs, h1, h2, h3, q⟩ := h
  obtain ⟨u, rfl, ru⟩ := vals1 r
  obtain ⟨as, hr, hn⟩ := hs X pins σ s u rfl I ru
  cases hr with
  | none => exact PySem.P.repr_of_none ⟨.str _, H, I.tok _, ⟨_, rfl⟩, q⟩
  | bool b => exact PySem.P.repr_of_bool ⟨.str _, H, I.tok _, ⟨_, rfl⟩, q⟩
  | int i t => exact PySem.P.repr_of_int (of_decide_eq_true h1) ⟨.str _, H, I.tok _, ⟨_, rfl⟩, q⟩
  | str x t => exact PySem.P.repr_of_str ⟨.str _, H, I.tok _, ⟨_, rfl⟩, q⟩ h3
  | list a b c e => exact repr_of_reads' (.list a b c e) h1 (fun _ => hn) hG (by omega) (fun _ _ z => z) (fun h' u tk k => ⟨.str _, H, I.kept (t' := tk) k, ⟨_, rfl⟩, q⟩) h3
  | tuple a b c e => exact repr_of_reads' (.tuple a b c e) h1 (fun _ => hn) hG (by omega) (fun _ _ z => z) (fun h' u tk k => ⟨.str _, H, I.kept (t' := tk) k, ⟨_, rfl⟩, q⟩) h3
  | dict a b c e f => exact repr_of_reads' (.dict a b c e f) h1 (fun _ => hn) hG (by omega) (fun _ _ z => z) (fun h' u tk k => ⟨.str _, H, I.kept (t' := tk) k, ⟨_, rfl⟩, q⟩) h3

end
end Lk
end

section
set_option Elab.async false
set_option linter.all false
set_option maxRecDepth 100000
set_option maxHeartbeats 4000000
namespace Lk
open PySem PySem.Spec PyProof.Rows L2
noncomputable section
variable [Tbl] [Lnk]
/-! ## IV: calls of own functions, methods, classes -/
abbrev Run := List DV → DM → Res RV
/-- the promise of an own function: what run computes -/
def spI (K : PySem.W.Frag) (n : Nat) (run : Run) : Sp := fun vs H Q E => vs.length = n ∧ ∃ ι M ds, Rep K ι H M ∧ VRs K ι H ds vs ∧ Post K (fun c d _ H => E c d H) ([] : L2.St) ι H (relE K) (run ds M) Q
/-- f with n arguments given is run; dvs: its defaults for the rest -/
def FnFact (X : Cx) (k : Nat) (f : Addr) (n : Nat) (run : Run) (dvs : List DV) : Prop := ∃ fd ps ds vds, FnG X.prog X.w X.K X.mg X.base (L2N.CX X.prog X.w) k f fd ps (spI X.K ps.length run) ∧ L2.Binds X.K fd ps ds ∧ (∀ ι H, VRs X.K ι H dvs vds) ∧ Vals vds ds ∧ n + dvs.length = ps.length
/-- an instance is made when its __init__ gave None -/
def madeOf (n : Nat) (r : RV) (M : DM) : Res RV := match r with
  | .v .non => .ok (.v (.obj n)) M
  | _ => .bad
theorem guards_make {A : Around} {a : Args} (h : A.guards = some []) : (A.under (.builtin "type.__call__" a)).guards = some [] := by
  unfold Around.under
  dsimp only
  rw [h]
  rfl
section
variable {X : Cx} {W : WX} {pins : List (Addr × Obj)} {σ : L2.St} {H : Hp} {s : Shared} {Q : VK} {ι : List Addr} {M : DM}
theorem call_run {k n : Nat} {f : Addr} {run : Run} {dvs xs : List DV} {vs : List V} {us : List Value} (F : FnFact X k f n run dvs) (hr : Room k X.A) (hG : X.A.guards = some []) (tk : L2N.Takes X W) (I : Inv X pins σ H s) (r : Vals vs us)
    (R : Rep X.K ι H M) (hv : VRs X.K ι H xs vs) (hn : xs.length = n) (h : Post X.K W σ ι H (relE X.K) (run (xs ++ dvs) M) Q) : wpAny (model X.prog X.w) X.A (call (.ref f) us) (EP X pins σ Q) X.xe s := by
  obtain ⟨fd, ps, ds, vds, F, hb, hd, rd, hl⟩ := F
  have all := r.append rd
  have len : (us ++ ds).length = ps.length := by rw [← all.length, List.length_append, ← hv.length, ← (hd ι H).length, hn]; exact hl
  have want : spI X.K ps.length run (vs ++ vds) H Q (fun c d H => W c d σ H) := ⟨by rw [all.length]; exact len, ι, M, xs ++ dvs, R, hv.append (hd ι H), h⟩
  refine wpAny_call (codeAny_mono (F.run X.A X.stack s H ⟨us, []⟩ _ _ Q _ hr hG I.env0 (hb s us I.kIn len) all want) fun r s' done => ?_)
  cases r with
  | error e => exact tk e s' (L2N.XE.of_call I (fun _ _ _ h => h) done)
  | ok fl => cases fl with
    | ret u => exact I.after done
    | next => exact False.elim done
    | brk => exact False.elim done
    | cont => exact False.elim done
theorem make_run {k n : Nat} {f C : Addr} {c : Str} {run : Run} {dvs xs : List DV} {vs : List V} {us : List Value} (hC : C = He.ga X.K c) (Mm : L2.Mk X.K C f) (F : FnFact X k f (n + 1) run dvs) (hr : Room (k + 1) X.A) (hG : X.A.guards = some []) (tk : L2N.Takes X W) (I : Inv X pins σ H s) (r : Vals vs us)
    (R : Rep X.K ι H M) (hv : VRs X.K ι H xs vs) (hn : xs.length = n) (h : Post X.K W σ ι H (relE X.K) ((run (.obj M.length :: (xs ++ dvs)) (M.push (.ins c []))).bind fun r M2 => madeOf M.length r M2) Q) :
    wpAny (model X.prog X.w) X.A (call (.ref C) us) (EP X pins σ Q) X.xe s := by
  subst hC
  obtain ⟨fd, ps, ds, vds, F, hb, hd, rd, hl⟩ := F
  have I2 := Inv.made (C := He.ga X.K c) I
  have nx : H (s.heap.objs.size + 1) = none := I.hok.fresh (Nat.le_succ _)
  have nd : H s.heap.objs.size = none := I.hok.fresh (Nat.le_refl _)
  have S1 : Same H (upd H s.heap.objs.size (.own (s.heap.objs.size + 1))) := Same.new nd
  have S2 : Same H (upd (upd H s.heap.objs.size (.own (s.heap.objs.size + 1))) (s.heap.objs.size + 1) (.ins (He.ga X.K c) s.heap.objs.size [])) := Same.trans S1 (Same.new (by rw [upd_ne (Nat.succ_ne_self _)]; exact nx))
  have nin : s.heap.objs.size + 1 ∉ ι := fun m => R.there m nx
  have R2 := (R.same S2).snoc (o := .ins c []) nin upd_same ⟨_, _, rfl, .nil⟩
  have A2 : Aft ι H (ι ++ [s.heap.objs.size + 1]) _ := (Aft.same S2).snoc (.inl nx)
  have all : Vals (V.ref (s.heap.objs.size + 1) :: (vs ++ vds)) (Value.ref (s.heap.objs.size + 1) :: (us ++ ds)) := .cons rfl (r.append rd)
  have len : (Value.ref (s.heap.objs.size + 1) :: us ++ ds).length = ps.length := by
    show (us ++ ds).length + 1 = _
    rw [← (r.append rd).length, List.length_append, ← hv.length, ← (hd ι H).length, hn]; omega
  have hself : VR X.K (ι ++ [s.heap.objs.size + 1]) (upd (upd H s.heap.objs.size (.own (s.heap.objs.size + 1))) (s.heap.objs.size + 1) (.ins (He.ga X.K c) s.heap.objs.size [])) (.obj M.length) (.ref (s.heap.objs.size + 1)) := .obj (by rw [← R.len]; simp)
  have want : spI X.K ps.length run (V.ref (s.heap.objs.size + 1) :: (vs ++ vds)) (upd (upd H s.heap.objs.size (.own (s.heap.objs.size + 1))) (s.heap.objs.size + 1) (.ins (He.ga X.K c) s.heap.objs.size [])) (fun v H2 => v = .non ∧ Q (.ref (s.heap.objs.size + 1)) H2) (fun c d H => W c d σ H) := by
    refine ⟨by rw [all.length]; exact len, ι ++ [s.heap.objs.size + 1], M.push (.ins c []), .obj M.length :: (xs ++ dvs), R2, .cons hself ((hv.append (hd ι H)).aft R A2), ?_⟩
    have h1 := Post.later early_E A2 R2 h
    cases e : run (.obj M.length :: (xs ++ dvs)) (M.push (.ins c [])) with
    | bad => rw [e] at h1; exact h1
    | exc x M' => rw [e] at h1; exact h1
    | ok r M' =>
      rw [e] at h1
      intro ι' v H' B R' rr
      have h1 : Post X.K W σ (ι ++ [s.heap.objs.size + 1]) _ (relE X.K) (madeOf M.length r M') Q := h1
      unfold madeOf at h1
      split at h1
      · cases vr_non rr.1
        exact ⟨rfl, h1 ι' _ H' B R' ⟨.v (hself.aft R2 B), trivial⟩⟩
      · exact h1.elim
  refine wpAny_call (make_map (f := f) I.kIn Mm.makes Mm.init (beq_iff_eq.mp Mm.fn) (codeAny_mono (F.run _ X.stack _ _ ⟨Value.ref (s.heap.objs.size + 1) :: us, []⟩ (Value.ref (s.heap.objs.size + 1) :: (us ++ ds)) _ _ _ (hr.make (He.ga X.K c) us [])
    (guards_make hG) (I2.env0.make (He.ga X.K c) us []) (hb _ (Value.ref (s.heap.objs.size + 1) :: us) I2.kIn len) all want) fun r s' hq' => ?_))
  cases r with
  | error e => exact tk e s' (L2N.XE.of_call I2 (fun _ _ _ h => h) hq')
  | ok fl =>
    cases fl
    case ret u =>
      obtain ⟨_, H', J, rv, rfl, done⟩ := I2.after hq'
      exact ⟨rv, V.ref _, H', J, rfl, done⟩
    all_goals exact hq'.elim
end
def mCallF (run : Run) (dvs : List DV) (n : Nat) (ms : DA) : DE := fun δ M => (ms δ M).bind fun xs M1 => if xs.length = n then run (xs ++ dvs) M1 else .bad
def mMake (c : Str) (run : Run) (dvs : List DV) (n : Nat) (ms : DA) : DE := fun δ M => (ms δ M).bind fun xs M1 => if xs.length = n then (run (.obj M1.length :: (xs ++ dvs)) (M1.push (.ins c []))).bind fun r M2 => madeOf M1.length r M2 else .bad
/-- o.m(..) of an own class: meth tells the class's function -/
def mMeth (meth : Str → Option (Run × List DV)) (m : Str) (n : Nat) (mo : DS → DM → Res DV) (ms : DA) : DE := fun δ M => (mo δ M).bind fun d M1 => match asI M1 (.v d) with
  | some (c, fs) => if fs.lookup m = none then match meth c with
    | some (run, dvs) => (ms δ M1).bind fun xs M2 => if xs.length = n then run (d :: (xs ++ dvs)) M2 else .bad
    | none => .bad
    else .bad
  | none => .bad
section
variable {X : Cx} {W : WX} {x m : Str} {p pos apos : Pos} {e o : Expr} {es : List Expr} {ms : DA} {mo : DS → DM → Res DV} {k n : Nat} {f C : Addr} {run : Run} {dvs : List DV}
theorem iv_call (F : FnFact X k f n run dvs) (hr : Room k X.A) (hG : X.A.guards = some []) (tk : L2N.Takes X W) (hg : Gl X x) (hm : X.mg x = some (.ref f)) (hk : PySem.W.keepIn X.K (.ref f) = true)
    (ha : PA X (e :: es) (tIa X.K W ms)) (hdb : (x == ("__debug__" : Str)) = false) (he : starEach (e :: es) X.env = (false, eval e X.env) :: starEach es X.env) (hpl : (backTo pos (starEach es X.env)).any (·.1) = false) :
    PE X (.Call (.Name x p) (e :: es) [] pos) (tI X.K W (mCallF run dvs n ms)) := by
  refine ⟨fun pins s σ H Q I ⟨ι, δ, M, hs, R, h⟩ => ?_⟩
  refine wpAny_Call_Name_kw (ld_glob I hg hm ?_ hdb)
  refine PySem.W.callWith_K (h₀ := X.base) I.ok.mod.kin hk (thn (ha.run pos pins s σ H _ I ⟨ι, δ, M, hs, R, Post.bind early_E hs R h⟩) fun us s1 ⟨vs, H1, I1, r, xs, ι1, M1, A1, hs1, R1, hx, h1⟩ => ⟨I1.kIn, ?_⟩) he hpl
  have h1 : Post X.K W σ ι1 H1 (relE X.K) (if xs.length = n then run (xs ++ dvs) M1 else .bad) Q := h1
  split at h1
  · rename_i hn
    exact call_run F hr hG tk I1 r R1 hx hn h1
  · exact h1.elim
theorem iv_call0 (F : FnFact X k f 0 run dvs) (hr : Room k X.A) (hG : X.A.guards = some []) (tk : L2N.Takes X W) (hg : Gl X x) (hm : X.mg x = some (.ref f)) (hk : PySem.W.keepIn X.K (.ref f) = true) (hdb : (x == ("__debug__" : Str)) = false) :
    PE X (.Call (.Name x p) [] [] pos) (tI X.K W (mCallF run dvs 0 mNil)) := by
  refine ⟨fun pins s σ H Q I ⟨ι, δ, M, hs, R, h⟩ => ?_⟩
  refine wpAny_Call_Name_kw (ld_glob I hg hm ?_ hdb)
  exact PySem.W.callWith_K0 I.kIn hk (call_run (us := []) (xs := []) F hr hG tk I .nil R .nil rfl h)
theorem iv_make {c : Str} (hC : C = He.ga X.K c) (Mm : L2.Mk X.K C f) (F : FnFact X k f (n + 1) run dvs) (hr : Room (k + 1) X.A) (hG : X.A.guards = some []) (tk : L2N.Takes X W) (hg : Gl X x) (hm : X.mg x = some (.ref C))
    (ha : PA X (e :: es) (tIa X.K W ms)) (hdb : (x == ("__debug__" : Str)) = false) (he : starEach (e :: es) X.env = (false, eval e X.env) :: starEach es X.env) (hpl : (backTo pos (starEach es X.env)).any (·.1) = false) :
    PE X (.Call (.Name x p) (e :: es) [] pos) (tI X.K W (mMake c run dvs n ms)) := by
  refine ⟨fun pins s σ H Q I ⟨ι, δ, M, hs, R, h⟩ => ?_⟩
  refine wpAny_Call_Name_kw (ld_glob I hg hm ?_ hdb)
  refine PySem.W.callWith_K (h₀ := X.base) I.ok.mod.kin Mm.kp (thn (ha.run pos pins s σ H _ I ⟨ι, δ, M, hs, R, Post.bind early_E hs R h⟩) fun us s1 ⟨vs, H1, I1, r, xs, ι1, M1, A1, hs1, R1, hx, h1⟩ => ⟨I1.kIn, ?_⟩) he hpl
  try dsimp only at h1
  split at h1
  · rename_i hn
    exact make_run hC Mm F hr hG tk I1 r R1 hx hn h1
  · exact h1.elim
theorem iv_make0 {c : Str} (hC : C = He.ga X.K c) (Mm : L2.Mk X.K C f) (F : FnFact X k f (0 + 1) run dvs) (hr : Room (k + 1) X.A) (hG : X.A.guards = some []) (tk : L2N.Takes X W) (hg : Gl X x) (hm : X.mg x = some (.ref C)) (hdb : (x == ("__debug__" : Str)) = false) :
    PE X (.Call (.Name x p) [] [] pos) (tI X.K W (mMake c run dvs 0 mNil)) := by
  refine ⟨fun pins s σ H Q I ⟨ι, δ, M, hs, R, h⟩ => ?_⟩
  refine wpAny_Call_Name_kw (ld_glob I hg hm ?_ hdb)
  exact PySem.W.callWith_K0 I.kIn Mm.kp (make_run (us := []) (xs := []) hC Mm F hr hG tk I .nil R .nil rfl h)
/-- what a class's method must be -/
def MethOk (X : Cx) (k : Nat) (m : Str) (n : Nat) (meth : Str → Option (Run × List DV)) : Prop := ∀ c run dvs, meth c = some (run, dvs) → ∃ f, L2.Cls X.K (He.ga X.K c) ∧ L2.Meth X.K (He.ga X.K c) m f ∧ FnFact X k f (n + 1) run dvs
theorem iv_meth {pl : Sem Bool} {meth : Str → Option (Run × List DV)} (F : MethOk X k m n meth) (hr : Room k X.A) (hG : X.A.guards = some []) (tk : L2N.Takes X W) (ho : PE X o (tIv X.K W mo)) (ha : PA X (e :: es) (tIa X.K W ms))
    (he : starEach (e :: es) X.env = (false, eval e X.env) :: starEach es X.env) (hpl : (backTo pos (starEach es X.env)).any (·.1) = false)
    (ht : eval (.Call (.Attribute o m apos) (e :: es) [] pos) X.env = (do
      let ov ← eval o X.env
      standAt apos.atName
      let (f, first) ← holding [ov] (getMethod ov m pl)
      callWith pos f first (backTo pos (starEach (e :: es) X.env)) (backToKw pos (keywordEach [] X.env)))) : PE X (.Call (.Attribute o m apos) (e :: es) [] pos) (tI X.K W (mMeth meth m n mo ms)) := by
  refine ⟨fun pins s σ H Q I ⟨ι, δ, M, hs, R, h⟩ => ?_⟩
  refine PySem.W.methodCall_KW (pl := pl) (thn (ho.run pins s σ H _ I ⟨ι, δ, M, hs, R, Post.bind early_E hs R h⟩) fun u s1 ⟨v, H1, I1, rx, d, ι1, M1, A1, hs1, R1, hx, h1⟩ => ?_) ht
  try dsimp only at h1
  split at h1
  · rename_i c fs ei
    split at h1
    · rename_i hl
      split at h1
      · rename_i run dvs em
        obtain ⟨f, cl, me, F⟩ := F c run dvs em
        obtain ⟨a, dx, es', rfl, g, t⟩ := asI_ok R1 (.v hx) ei
        obtain rfl : u = Value.ref a := rx
        refine getmeth_ok I1 g cl me (lookF_none t hl) ?_
        refine PySem.W.callWith_K (first := [.ref a]) (h₀ := X.base) I.ok.mod.kin me.kp (thn (ha.run pos pins s1 σ H1 _ I1 ⟨ι1, δ, M1, hs1, R1, Post.bind early_E hs1 R1 h1⟩) fun us s2 ⟨vs, H2, I2, r, xs, ι2, M2, A2, hs2, R2, hy, h2⟩ => ⟨I2.kIn, ?_⟩) he hpl
        try dsimp only at h2
        split at h2
        · rename_i hn
          exact call_run (us := .ref a :: us) (vs := .ref a :: vs) (xs := d :: xs) F hr hG tk I2 (.cons rfl r) R2 (.cons (VR.aft R1 A2 hx) hy) (by rw [List.length_cons, hn]) h2
        · exact h2.elim
      · exact h1.elim
    · exact h1.elim
  · exact h1.elim
theorem iv_meth0 {pl : Sem Bool} {meth : Str → Option (Run × List DV)} (F : MethOk X k m 0 meth) (hr : Room k X.A) (hG : X.A.guards = some []) (tk : L2N.Takes X W) (ho : PE X o (tIv X.K W mo))
    (ht : eval (.Call (.Attribute o m apos) [] [] pos) X.env = (do
      let ov ← eval o X.env
      standAt apos.atName
      let (f, first) ← holding [ov] (getMethod ov m pl)
      callWith pos f first (backTo pos (starEach [] X.env)) (backToKw pos (keywordEach [] X.env)))) : PE X (.Call (.Attribute o m apos) [] [] pos) (tI X.K W (mMeth meth m 0 mo mNil)) := by
  refine ⟨fun pins s σ H Q I ⟨ι, δ, M, hs, R, h⟩ => ?_⟩
  refine PySem.W.methodCall_KW (pl := pl) (thn (ho.run pins s σ H _ I ⟨ι, δ, M, hs, R, Post.bind early_E hs R h⟩) fun u s1 ⟨v, H1, I1, rx, d, ι1, M1, A1, hs1, R1, hx, h1⟩ => ?_) ht
  try dsimp only at h1
  split at h1
  · rename_i c fs ei
    split at h1
    · rename_i hl
      split at h1
      · rename_i run dvs em
        obtain ⟨f, cl, me, F⟩ := F c run dvs em
        obtain ⟨a, dx, es', rfl, g, t⟩ := asI_ok R1 (.v hx) ei
        obtain rfl : u = Value.ref a := rx
        refine getmeth_ok I1 g cl me (lookF_none t hl) ?_
        exact PySem.W.callWith_K0 (first := [.ref a]) I1.kIn me.kp (call_run (us := [.ref a]) (vs := [.ref a]) (xs := [d]) F hr hG tk I1 (.cons rfl .nil) R1 (.cons hx .nil) rfl h1)
      · exact h1.elim
    · exact h1.elim
  · exact h1.elim
end

end
end Lk
end

section
set_option Elab.async false
set_option linter.all false
set_option maxRecDepth 100000
set_option maxHeartbeats 4000000
namespace Lk
open PySem PySem.Spec PyProof.Rows L2
noncomputable section
variable [Tbl] [Lnk]
/-! ## IV: statements -/
inductive SOut where
  | nx (δ : DS) (M : DM) | ret (r : RV) (M : DM) | brk (δ : DS) (M : DM) | ct (δ : DS) (M : DM) | exc (e : Exc) (δ : DS) (M : DM) | bad
def PostS (K : PySem.W.Frag) (W : WX) (ι : List Addr) (H : Hp) (r : SOut) (D : Ends) : Prop := match r with
  | .nx δ M => ∀ ι' σ' H', Aft ι H ι' H' → Rep K ι' H' M → SR K ι' H' δ σ' → D.nx σ' H'
  | .ret r M => ∀ ι' v H', Aft ι H ι' H' → Rep K ι' H' M → RVR K ι' H' r v → Fresh H r v → D.rt v H'
  | .brk δ M => ∀ ι' σ' H', Aft ι H ι' H' → Rep K ι' H' M → SR K ι' H' δ σ' → D.bk σ' H'
  | .ct δ M => ∀ ι' σ' H', Aft ι H ι' H' → Rep K ι' H' M → SR K ι' H' δ σ' → D.ct σ' H'
  | .exc e δ M => ∀ ι' cls d σ' H', Aft ι H ι' H' → Rep K ι' H' M → SR K ι' H' δ σ' → ExR K ι' H' e cls d → W cls d σ' H'
  | .bad => False
abbrev DSt := DS → DM → SOut
def tIs (K : PySem.W.Frag) (W : WX) (m : DSt) : TS := fun D σ H => ∃ ι δ M, SR K ι H δ σ ∧ Rep K ι H M ∧ PostS K W ι H (m δ M) D
/-- an expression's outcome, then the rest of the statement -/
def thenE {α : Type} (δ : DS) (r : Res α) (f : α → DM → SOut) : SOut := match r with
  | .ok a M => f a M
  | .exc e M => .exc e δ M
  | .bad => .bad
section
variable {α β : Type} {K : PySem.W.Frag} {W : WX} {σ : L2.St} {ι ι1 : List Addr} {H H1 : Hp} {M M1 : DM} {D : Ends}
theorem PostS.later (A : Aft ι H ι1 H1) (R1 : Rep K ι1 H1 M1) {r : SOut} (h : PostS K W ι H r D) : PostS K W ι1 H1 r D := by
  cases r with
  | nx δ M => exact fun ι' σ' H' B R' s' => h ι' σ' H' (A.trans R1 B) R' s'
  | ret r M => exact fun ι' v H' B R' r' f => h ι' v H' (A.trans R1 B) R' r' (f.back A R1)
  | brk δ M => exact fun ι' σ' H' B R' s' => h ι' σ' H' (A.trans R1 B) R' s'
  | ct δ M => exact fun ι' σ' H' B R' s' => h ι' σ' H' (A.trans R1 B) R' s'
  | exc e δ M => exact fun ι' c d σ' H' B R' s' x => h ι' c d σ' H' (A.trans R1 B) R' s' x
  | bad => exact h
theorem PostS.imp {D' : Ends} {r : SOut} (h : PostS K W ι H r D) (k1 : ∀ σ H, D.nx σ H → D'.nx σ H) (k2 : ∀ v H, D.rt v H → D'.rt v H) (k3 : ∀ σ H, D.bk σ H → D'.bk σ H) (k4 : ∀ σ H, D.ct σ H → D'.ct σ H) : PostS K W ι H r D' := by
  cases r with
  | nx δ M => exact fun ι' σ' H' B R' s' => k1 _ _ (h ι' σ' H' B R' s')
  | ret r M => exact fun ι' v H' B R' r' f => k2 _ _ (h ι' v H' B R' r' f)
  | brk δ M => exact fun ι' σ' H' B R' s' => k3 _ _ (h ι' σ' H' B R' s')
  | ct δ M => exact fun ι' σ' H' B R' s' => k4 _ _ (h ι' σ' H' B R' s')
  | exc e δ M => exact h
  | bad => exact h
theorem PostS.bindE {rel : RelT α β} {δ : DS} {r : Res α} {f : α → DM → SOut} (hs : SR K ι H δ σ) (R : Rep K ι H M) (h : PostS K W ι H (thenE δ r f) D) :
    Post K W σ ι H rel r (fun v H1 => ∃ x ι1 M1, Aft ι H ι1 H1 ∧ SR K ι1 H1 δ σ ∧ Rep K ι1 H1 M1 ∧ rel H ι1 H1 x v ∧ PostS K W ι1 H1 (f x M1) D) := by
  cases r with
  | ok a M' => exact fun ι' v H' A R' r' => ⟨a, ι', M', A, hs.aft R A, R', r', PostS.later A R' (show PostS K W ι H (f a M') D from h)⟩
  | exc e M' => exact fun ι' c d H' A R' x => h ι' c d σ H' A R' (hs.aft R A) x
  | bad => exact h
theorem PostS.nx {δ : DS} (h : PostS K W ι H (.nx δ M) D) (R : Rep K ι H M) (hs : SR K ι H δ σ) : D.nx σ H := h ι σ H (Aft.refl ι H) R hs
end
def mExpr (m : DE) : DSt := fun δ M => thenE δ (m δ M) fun _ M1 => .nx δ M1
def mRet (m : DE) : DSt := fun δ M => thenE δ (m δ M) fun r M1 => .ret r M1
def mRetN : DSt := fun _ M => .ret (.v .non) M
def mPass : DSt := fun δ M => .nx δ M
def mIfS (c : DT) (a b : DSt) : DSt := fun δ M => thenE δ (c δ M) fun k M1 => if k = true then a δ M1 else b δ M1
def mSeq (a b : DSt) : DSt := fun δ M => match a δ M with
  | .nx δ1 M1 => b δ1 M1
  | o => o
def mSet (i : Nat) (m : DS → DM → Res DV) : DSt := fun δ M => thenE δ (m δ M) fun d M1 => .nx (δ.set i (some d)) M1
section
variable {X : Cx} {W : WX} {e c : Expr} {m : DE} {pos : Pos} {st : Stmt} {rest A B : List Stmt} {ma mb : DSt}
theorem ps_of {t t' : TS} (h : PS X st t) (k : ∀ D σ H, t' D σ H → t D σ H) : PS X st t' := ⟨fun pins s σ H D I w => h.run pins s σ H D I (k D σ H w)⟩
theorem pss_of {t t' : TS} (h : PSs X A t) (k : ∀ D σ H, t' D σ H → t D σ H) : PSs X A t' := ⟨fun pins s σ H D I w => h.run pins s σ H D I (k D σ H w)⟩
theorem is_expr (h : PE X e (tI X.K W m)) (hsw : swapsWith e none pos.line X.env = pure false) : PS X (.Expr e pos) (tIs X.K W (mExpr m)) := ps_of (ps_expr h hsw) fun D σ H ⟨ι, δ, M, hs, R, h⟩ => by
  refine ⟨ι, δ, M, hs, R, (PostS.bindE hs R h).imp ?_⟩
  rintro v H1 ⟨x, ι1, M1, A1, hs1, R1, hx, h1⟩
  exact PostS.nx h1 R1 hs1
theorem is_ret (h : PE X e (tI X.K W m)) : PS X (.Return (some e) pos) (tIs X.K W (mRet m)) := ps_of (ps_ret h) fun D σ H ⟨ι, δ, M, hs, R, h⟩ => by
  refine ⟨ι, δ, M, hs, R, ?_⟩
  unfold mRet at h
  cases e : m δ M with
  | ok r M' => rw [e] at h; exact fun ι' v H' A R' r' => h ι' v H' A R' r'.1 r'.2
  | exc x M' => rw [e] at h; exact fun ι' c d H' A R' x => h ι' c d σ H' A R' (hs.aft R A) x
  | bad => rw [e] at h; exact h
theorem is_retN : PS X (.Return none pos) (tIs X.K W mRetN) := ps_of ps_retN fun D σ H ⟨ι, δ, M, hs, R, h⟩ => h ι .non H (Aft.refl ι H) R (.v .non) trivial
theorem is_pass : PS X (.Pass pos) (tIs X.K W mPass) := ps_of ps_pass fun D σ H ⟨ι, δ, M, hs, R, h⟩ => PostS.nx h R hs
theorem is_if {n : DT} (hc : PT X c (tIt X.K W n)) (ha : PSs X A (tIs X.K W ma)) (hb : PSs X B (tIs X.K W mb)) : PS X (.If c A B pos) (tIs X.K W (mIfS n ma mb)) := ps_of (ps_if hc ha hb) fun D σ H ⟨ι, δ, M, hs, R, h⟩ => by
  refine ⟨ι, δ, M, hs, R, (PostS.bindE hs R h).imp ?_⟩
  rintro v H1 ⟨x, ι1, M1, A1, hs1, R1, hx, h1⟩
  have hx : x = v := hx
  subst hx
  by_cases k : x = true
  · rw [if_pos k] at h1 ⊢; exact ⟨ι1, δ, M1, hs1, R1, h1⟩
  · rw [if_neg k] at h1 ⊢; exact ⟨ι1, δ, M1, hs1, R1, h1⟩
theorem is_nil : PSs X [] (tIs X.K W mPass) := pss_of pss_nil fun D σ H ⟨ι, δ, M, hs, R, h⟩ => PostS.nx h R hs
theorem is_cons (ha : PS X st (tIs X.K W ma)) (hb : PSs X rest (tIs X.K W mb)) : PSs X (st :: rest) (tIs X.K W (mSeq ma mb)) := pss_of (pss_cons ha hb) fun D σ H ⟨ι, δ, M, hs, R, h⟩ => by
  refine ⟨ι, δ, M, hs, R, ?_⟩
  unfold mSeq at h
  cases e : ma δ M with
  | nx δ1 M1 =>
    rw [e] at h
    exact fun ι' σ' H' A' R' s' => ⟨ι', δ1, M1, s', R', PostS.later A' R' h⟩
  | ret r M1 => rw [e] at h; exact h
  | brk δ1 M1 => rw [e] at h; exact h
  | ct δ1 M1 => rw [e] at h; exact h
  | exc x δ1 M1 => rw [e] at h; exact h
  | bad => rw [e] at h; exact h
theorem is_set {i : Nat} {x : Str} {pos' : Pos} {n : DS → DM → Res DV} (hN : X.N.Nodup) (hi : X.N[i]? = some x) (hx : Loc X.env.scope x) (he : PE X e (tIv X.K W n)) (hs : swapsWith e (some (.Name x pos')) pos.line X.env = pure false) (hf : X.fn x = true ∨ X.env.scope.names.lookup x = some .local) :
    PS X (.Assign [.Name x pos'] e pos) (tIs X.K W (mSet i n)) := ps_of (ps_set hN hi hx he hs hf) fun D σ H ⟨ι, δ, M, hs, R, h⟩ => by
  refine ⟨ι, δ, M, hs, R, (PostS.bindE hs R h).imp ?_⟩
  rintro v H1 ⟨x, ι1, M1, A1, hs1, R1, hx, h1⟩
  exact PostS.nx h1 R1 (hs1.set i hx)
end
/-! ### targets -/
abbrev DG := DV → DS → DM → SOut
def tIg (K : PySem.W.Frag) (W : WX) (g : DG) : TG := fun v σ H Q => ∃ ι δ M d, SR K ι H δ σ ∧ Rep K ι H M ∧ VR K ι H d v ∧ PostS K W ι H (g d δ M) { nx := Q, rt := fun _ _ => False }
def gNameM (i : Nat) : DG := fun d δ M => .nx (δ.set i (some d)) M
abbrev DGs := List DV → DS → DM → SOut
def tIgs (K : PySem.W.Frag) (W : WX) (g : DGs) : TGs := fun vs σ H Q => ∃ ι δ M ds, SR K ι H δ σ ∧ Rep K ι H M ∧ VRs K ι H ds vs ∧ PostS K W ι H (g ds δ M) { nx := Q, rt := fun _ _ => False }
def gNilM : DGs := fun ds δ M => match ds with
  | [] => .nx δ M
  | _ => .bad
def gConsM (g : DG) (gs : DGs) : DGs := fun ds δ M => match ds with
  | d :: ds => match g d δ M with
    | .nx δ1 M1 => gs ds δ1 M1
    | _ => .bad
  | [] => .bad
/-- a tuple or a list is taken apart -/
def gTupM (n : Nat) (gs : DGs) : DG := fun d δ M => match asS M (.v d) with
  | some ds => if ds.length = n then gs ds δ M else .bad
  | none => .bad
def mAsg (m : DS → DM → Res DV) (g : DG) : DSt := fun δ M => thenE δ (m δ M) fun d M1 => g d δ M1
section
variable {X : Cx} {W : WX} {tg e : Expr} {ts : List Expr} {pos : Pos}
theorem pg_of {t t' : TG} (h : PG X tg t) (k : ∀ v σ H Q, t' v σ H Q → t v σ H Q) : PG X tg t' := ⟨fun pins s σ H v u Q I r w => h.run pins s σ H v u Q I r (k v σ H Q w)⟩
theorem pgs_of {t t' : TGs} (h : PGs X ts t) (k : ∀ v σ H Q, t' v σ H Q → t v σ H Q) : PGs X ts t' := ⟨fun pins s σ H v u Q I r w => h.run pins s σ H v u Q I r (k v σ H Q w)⟩
theorem ig_name {i : Nat} {x : Str} (hN : X.N.Nodup) (hi : X.N[i]? = some x) (hx : Loc X.env.scope x) (hf : X.fn x = true ∨ X.env.scope.names.lookup x = some .local) : PG X (.Name x pos) (tIg X.K W (gNameM i)) := pg_of (pg_name hN hi hx hf) fun v σ H Q ⟨ι, δ, M, d, hs, R, hd, h⟩ => h ι _ H (Aft.refl ι H) R (hs.set i hd)
theorem igs_nil : PGs X [] (tIgs X.K W gNilM) := pgs_of pgs_nil fun vs σ H Q ⟨ι, δ, M, ds, hs, R, hd, h⟩ => by
  cases hd with
  | nil => exact ⟨rfl, h ι _ H (Aft.refl ι H) R hs⟩
  | cons _ _ => exact h.elim
theorem igs_cons {g : DG} {gs : DGs} (hg : PG X tg (tIg X.K W g)) (hr : PGs X ts (tIgs X.K W gs)) (hst : (assignEach (tg :: ts) X.env).map (·.2) = assign tg X.env :: (assignEach ts X.env).map (·.2)) : PGs X (tg :: ts) (tIgs X.K W (gConsM g gs)) := pgs_of (pgs_cons hg hr hst) fun vs σ H Q ⟨ι, δ, M, ds, hs, R, hd, h⟩ => by
  cases hd with
  | nil => exact h.elim
  | @cons d v ds vs r t =>
    refine ⟨v, vs, rfl, ι, δ, M, d, hs, R, r, ?_⟩
    simp only [gConsM] at h
    cases e : g d δ M with
    | nx δ1 M1 =>
      rw [e] at h
      exact fun ι' σ' H' A' R' s' => ⟨ι', δ1, M1, ds, s', R', VRs.aft R A' t, PostS.later A' R' h⟩
    | ret r M1 => rw [e] at h; exact h.elim
    | brk δ1 M1 => rw [e] at h; exact h.elim
    | ct δ1 M1 => rw [e] at h; exact h.elim
    | exc x δ1 M1 => rw [e] at h; exact h.elim
    | bad => rw [e] at h; exact h.elim
theorem pg_alt {t t' : TG} (h : PG X tg t) (h' : PG X tg t') : PG X tg (fun v σ H Q => t v σ H Q ∨ t' v σ H Q) := ⟨fun pins s σ H v u Q I r w => w.elim (h.run pins s σ H v u Q I r) (h'.run pins s σ H v u Q I r)⟩
theorem ig_tup {n k : Nat} {gs : DGs} (hc : X.calm = true) (h : PGs X ts (tIgs X.K W gs)) (hn : (assignEach ts X.env).length = n) (hst : (assignEach ts X.env).findIdx? (·.1) = none) : PG X (.Tuple ts k pos) (tIg X.K W (gTupM n gs)) :=
  pg_of (pg_alt (pg_tup hc h hn hst) (pg_lst hc h hn hst)) fun v σ H Q ⟨ι, δ, M, d, hs, R, hd, h⟩ => by
    unfold gTupM at h
    split at h
    · rename_i ds e
      split at h
      · rename_i hl
        obtain ⟨a, xs, rfl, hq, t⟩ := asS_ok R (.v hd) e
        rcases hq with hq | hq
        · exact .inr ⟨a, xs, rfl, hq, by rw [← t.length]; exact hl, ι, δ, M, ds, hs, R, t, h⟩
        · exact .inl ⟨a, xs, rfl, hq, by rw [← t.length]; exact hl, ι, δ, M, ds, hs, R, t, h⟩
      · exact h.elim
    · exact h.elim
theorem is_asg {n : DS → DM → Res DV} {g : DG} (he : PE X e (tIv X.K W n)) (hg : PG X tg (tIg X.K W g)) (hs : swapsWithSole [tg] e pos.line X.env = pure false) (hw : swappedStores [tg] e X.env = pure none) (h1 : (assignEach [tg] X.env).map (·.2) = [assign tg X.env]) (hn : ∀ d δ M, match g d δ M with | .nx _ _ => True | .bad => True | _ => False) :
    PS X (.Assign [tg] e pos) (tIs X.K W (mAsg n g)) := ps_of (ps_asg he hg hs hw h1) fun D σ H ⟨ι, δ, M, hs, R, h⟩ => by
  refine ⟨ι, δ, M, hs, R, (PostS.bindE hs R h).imp ?_⟩
  rintro v H1 ⟨x, ι1, M1, A1, hs1, R1, hx, h1⟩
  refine ⟨ι1, δ, M1, x, hs1, R1, hx, ?_⟩
  have z := hn x δ M1
  cases e : g x δ M1 with
  | nx δ1 M1 => rw [e] at h1; exact h1
  | ret r M1 => rw [e] at z; exact z.elim
  | brk δ1 M1 => rw [e] at z; exact z.elim
  | ct δ1 M1 => rw [e] at z; exact z.elim
  | exc x δ1 M1 => rw [e] at z; exact z.elim
  | bad => rw [e] at h1; exact h1
end

end
end Lk
end

section
set_option Elab.async false
set_option linter.all false
set_option maxRecDepth 100000
set_option maxHeartbeats 4000000
namespace Lk
open PySem PySem.Spec PyProof.Rows L2
noncomputable section
variable [Tbl] [Lnk]
/-! ## IV: things that change -/
section
variable {K : PySem.W.Frag} {ι ι' : List Addr} {H H' : Hp} {M : DM}
theorem FR.go {κ : Type} (hi : ∀ (n : Nat) (a : Addr), ι[n]? = some a → ι'[n]? = some a) (ht : ∀ a xs, SqT K H a xs → SqT K H' a xs) {d : List (κ × DV)} {v : List (κ × V)} (h : FR K ι H d v) : FR K ι' H' d v := by
  induction h with
  | nil => exact .nil
  | cons h _ t => exact .cons ⟨h.1, h.2.go hi ht⟩ t
theorem OR.go (hi : ∀ (n : Nat) (a : Addr), ι[n]? = some a → ι'[n]? = some a) (ht : ∀ a xs, SqT K H a xs → SqT K H' a xs) {o : DObj} {u : HO} (h : OR K ι H o u) : OR K ι' H' o u := by
  cases o with
  | lst ds => obtain ⟨xs, e, r⟩ := h; exact ⟨xs, e, r.go hi ht⟩
  | dic lk kvs => cases lk with
    | false => obtain ⟨es, e, r⟩ := h; exact ⟨es, e, FR.go hi ht r⟩
    | true => obtain ⟨o, es, e, r⟩ := h; exact ⟨o, es, e, FR.go hi ht r⟩
  | ins c fs => obtain ⟨dx, es, e, r⟩ := h; exact ⟨dx, es, e, FR.go hi ht r⟩
theorem sqT_put (R : Rep K ι H M) {a b : Addr} {u : HO} {xs : List V} (ha : a ∈ ι) (h : SqT K H b xs) : SqT K (upd H a u) b xs := by
  rcases h with (h | ⟨o, h⟩) | h
  · exact .inl (.inl (by rw [upd_ne (fun (z : b = a) => R.no_tup (.inl h) (by rw [z]; exact ha))]; exact h))
  · exact .inl (.inr ⟨o, by rw [upd_ne (fun (z : b = a) => R.no_tup (.inr ⟨o, h⟩) (by rw [z]; exact ha))]; exact h⟩)
  · exact .inr h
theorem Rep.put (R : Rep K ι H M) {n : Nat} {a : Addr} {u : HO} {o : DObj} (hn : ι[n]? = some a) (ho : OR K ι H o u) : Rep K ι (upd H a u) (M.set n o) := by
  have ha : a ∈ ι := List.mem_of_getElem? hn
  obtain ⟨_, oo, u0, _, _, g0, q0⟩ := R.of_mem ha
  have tb : LamX.Tabs (Tbl.t K) (upd H a u) := by
    cases oo with
    | lst ds => obtain ⟨_, rfl, _⟩ := q0; exact tabs_upd R.tb g0 (fun _ z => by cases z) (fun _ z => by cases z)
    | dic lk kvs => cases lk with
      | false => obtain ⟨_, rfl, _⟩ := q0; exact tabs_upd R.tb g0 (fun _ z => by cases z) (fun _ z => by cases z)
      | true => obtain ⟨_, _, rfl, _⟩ := q0; exact tabs_upd R.tb g0 (fun _ z => by cases z) (fun _ z => by cases z)
    | ins c fs => obtain ⟨_, _, rfl, _⟩ := q0; exact tabs_upd R.tb g0 (fun _ z => by cases z) (fun _ z => by cases z)
  have lt : n < M.length := by rw [← R.len]; exact (List.getElem?_eq_some_iff.mp hn).1
  refine ⟨by rw [DM.length_set]; exact R.len, R.nd, fun m hm => by
      by_cases e : m = n
      · subst e; exact ⟨o, DM.set_same lt⟩
      · rw [DM.set_ne e]; exact R.fl m hm, fun m b o' h1 h2 => ?_, tb, R.xgo ⟨[], by simp⟩ fun b hb o e _ => by rw [upd_ne (fun (z : b = a) => hb (by rw [z]; exact ha))]; exact e⟩
  by_cases e : m = n
  · subst e
    rw [hn] at h1; cases h1
    rw [DM.set_same lt] at h2
    cases h2
    exact ⟨u, upd_same, ho.go (fun _ _ z => z) fun _ _ q => sqT_put R ha q⟩
  · rw [DM.set_ne e] at h2
    obtain ⟨u', g, q⟩ := R.at_ m b o' h1 h2
    have ne : b ≠ a := fun z => e (by
      subst z
      obtain ⟨l1, e1⟩ := List.getElem?_eq_some_iff.mp h1
      obtain ⟨l2, e2⟩ := List.getElem?_eq_some_iff.mp hn
      exact (List.getElem_inj R.nd).mp (e1.trans e2.symm))
    exact ⟨u', by rw [upd_ne ne]; exact g, q.go (fun _ _ z => z) fun _ _ q => sqT_put R ha q⟩
theorem Aft.put {a : Addr} {u : HO} (ha : a ∈ ι) (nz : ∀ o u', H a ≠ some (.frz o u')) (nt : ∀ ps, u ≠ .tbl ps := by intro _ z; cases z) : Aft ι H ι (upd H a u) := ⟨⟨[], by simp, by simp⟩, fun b hb o e _ => by rw [upd_ne (fun (z : b = a) => hb (by rw [z]; exact ha))]; exact e, fun _ h => free_upd nt h,
  fun b o u' e => by rw [upd_ne (fun (z : b = a) => nz o u' (by rw [← z]; exact e))]; exact e⟩
theorem OR.nt {K : PySem.W.Frag} {ι : List Addr} {H : Hp} {o : DObj} {u : HO} (h : OR K ι H o u) : ∀ ps, u ≠ .tbl ps := fun ps e => by
  subst e
  cases o with
  | lst ds => obtain ⟨_, z, _⟩ := h; cases z
  | dic lk kvs => cases lk with
    | false => obtain ⟨_, z, _⟩ := h; cases z
    | true => obtain ⟨_, _, z, _⟩ := h; cases z
  | ins c fs => obtain ⟨_, _, z, _⟩ := h; cases z
theorem nz_of {H : Hp} {a : Addr} {u : HO} (h : H a = some u) (n : ∀ o u', u ≠ .frz o u') : ∀ o u', H a ≠ some (.frz o u') := fun o u' e => n o u' (Option.some.inj (h.symm.trans e))
end
theorem VRs.set {K : PySem.W.Frag} {ι : List Addr} {H : Hp} : ∀ {ds : List DV} {vs : List V} {d : DV} {v : V} (i : Nat), VRs K ι H ds vs → VR K ι H d v → VRs K ι H (ds.set i d) (vs.set i v)
  | [], [], _, _, _, .nil, _ => .nil
  | _ :: _, _ :: _, _, _, 0, .cons _ t, r => .cons r t
  | _ :: _, _ :: _, _, _, i + 1, .cons h t, r => .cons h (VRs.set i t r)
def putD {κ : Type} [DecidableEq κ] (kvs : List (κ × DV)) (k : κ) (d : DV) : List (κ × DV) := if (kvs.any fun kv => decide (kv.1 = k)) = true then kvs.map (fun kv => if kv.1 = k then (kv.1, d) else kv) else kvs ++ [(k, d)]
theorem FR.any {κ : Type} [DecidableEq κ] {K : PySem.W.Frag} {ι : List Addr} {H : Hp} {kvs : List (κ × DV)} {es : List (κ × V)} (h : FR K ι H kvs es) (k : κ) : (kvs.any fun kv => decide (kv.1 = k)) = es.any fun kv => decide (kv.1 = k) := by
  induction h with
  | nil => rfl
  | cons h _ t => rw [List.any_cons, List.any_cons, t, h.1]
theorem FR.append {κ : Type} {K : PySem.W.Frag} {ι : List Addr} {H : Hp} {a b : List (κ × DV)} {x y : List (κ × V)} (h : FR K ι H a x) (k : FR K ι H b y) : FR K ι H (a ++ b) (x ++ y) := by
  induction h with
  | nil => exact k
  | cons h _ t => exact .cons h t
theorem FR.put {κ : Type} [DecidableEq κ] {K : PySem.W.Frag} {ι : List Addr} {H : Hp} {kvs : List (κ × DV)} {es : List (κ × V)} (h : FR K ι H kvs es) {k : κ} {d : DV} {v : V} (r : VR K ι H d v) : FR K ι H (putD kvs k d) (putK es k v) := by
  unfold putD putK
  rw [FR.any h]
  split
  · induction h with
    | nil => exact .nil
    | @cons p q ps qs hh _ t =>
      rw [List.map_cons, List.map_cons]
      refine .cons ?_ (by
        cases hany : (qs.any fun kv => decide (kv.1 = k)) with
        | true => rename_i hc; exact t hany
        | false =>
          rename_i hr hc
          clear t hc
          induction hr with
          | nil => exact .nil
          | @cons p' q' ps' qs' h' _ t' =>
            rw [List.any_cons, Bool.or_eq_false_iff] at hany
            rw [List.map_cons, List.map_cons]
            refine .cons ?_ (t' hany.2)
            have e2 : ¬ q'.1 = k := of_decide_eq_false hany.1
            rw [if_neg e2, if_neg (fun z => e2 (h'.1.symm.trans z))]
            exact h')
      by_cases e : p.1 = k
      · rw [if_pos e, if_pos (hh.1.symm.trans e)]; exact ⟨hh.1, r⟩
      · rw [if_neg e, if_neg (fun z => e (hh.1.trans z))]; exact hh
  · exact FR.append h (.cons ⟨rfl, r⟩ .nil)
def mergeD {κ : Type} [DecidableEq κ] (kvs more : List (κ × DV)) : List (κ × DV) := more.foldl (fun acc kv => putD acc kv.1 kv.2) kvs
theorem FR.merge {K : PySem.W.Frag} {ι : List Addr} {H : Hp} {more : List (Key × DV)} {ms : List (Key × V)} (h : FR K ι H more ms) : ∀ {kvs : List (Key × DV)} {es : List (Key × V)}, FR K ι H kvs es → FR K ι H (mergeD kvs more) (mergeK es ms) := by
  induction h with
  | nil => exact fun k => k
  | @cons p q ps qs hh _ t =>
    intro kvs es k
    have := t (FR.put (k := p.1) k hh.2)
    rw [hh.1] at this
    show FR K ι H (mergeD (putD kvs p.1 p.2) ps) (mergeK (putK es q.1 q.2) qs)
    rw [hh.1]; exact this
def putFD (f : Str) (d : DV) : List (Str × DV) → List (Str × DV)
  | [] => [(f, d)]
  | (g, x) :: r => if g = f then (g, d) :: r else (g, x) :: putFD f d r
theorem fr_putF {K : PySem.W.Frag} {ι : List Addr} {H : Hp} {fs : List (Str × DV)} {es : List (Str × V)} (h : FR K ι H fs es) {f : Str} {d : DV} {v : V} (r : VR K ι H d v) : FR K ι H (putFD f d fs) (putF f v es) := by
  induction h with
  | nil => exact .cons ⟨rfl, r⟩ .nil
  | @cons p q ps qs hh tt t =>
    obtain ⟨p1, p2⟩ := p
    obtain ⟨q1, q2⟩ := q
    obtain ⟨h1, h2⟩ := hh
    have h1 : p1 = q1 := h1
    subst h1
    unfold putFD putF
    by_cases e : p1 = f
    · rw [if_pos e, if_pos e]; exact .cons ⟨rfl, r⟩ tt
    · rw [if_neg e, if_neg e]; exact .cons ⟨rfl, h2⟩ t
/-- an unlocked dict that has a number -/
def dicAt (M : DM) (d : DV) : Option (Nat × List (Key × DV)) := match d with
  | .obj n => match M[n]? with
    | some (.dic false kvs) => some (n, kvs)
    | _ => none
  | _ => none
def lstAt (M : DM) (d : DV) : Option (Nat × List DV) := match d with
  | .obj n => match M[n]? with
    | some (.lst ds) => some (n, ds)
    | _ => none
  | _ => none
def insAt (M : DM) (d : DV) : Option (Nat × Str × List (Str × DV)) := match d with
  | .obj n => match M[n]? with
    | some (.ins c fs) => some (n, c, fs)
    | _ => none
  | _ => none
section
variable {K : PySem.W.Frag} {ι : List Addr} {H : Hp} {M : DM}
theorem dicAt_ok (R : Rep K ι H M) {d : DV} {v : V} {n : Nat} {kvs : List (Key × DV)} (h : VR K ι H d v) (e : dicAt M d = some (n, kvs)) : ∃ a es, v = .ref a ∧ ι[n]? = some a ∧ H a = some (.dK es) ∧ FR K ι H kvs es := by
  cases h with
  | @obj n a hn =>
    simp only [dicAt] at e
    split at e
    · rename_i hm
      cases e
      obtain ⟨u, g, es, rfl, t⟩ := R.at_ _ _ _ hn hm
      exact ⟨a, es, rfl, hn, g, t⟩
    · cases e
  | _ => cases e
theorem lstAt_ok (R : Rep K ι H M) {d : DV} {v : V} {n : Nat} {ds : List DV} (h : VR K ι H d v) (e : lstAt M d = some (n, ds)) : ∃ a xs, v = .ref a ∧ ι[n]? = some a ∧ H a = some (.lst xs) ∧ VRs K ι H ds xs := by
  cases h with
  | @obj n a hn =>
    simp only [lstAt] at e
    split at e
    · rename_i hm
      cases e
      obtain ⟨u, g, es, rfl, t⟩ := R.at_ _ _ _ hn hm
      exact ⟨a, es, rfl, hn, g, t⟩
    · cases e
  | _ => cases e
theorem insAt_ok (R : Rep K ι H M) {d : DV} {v : V} {n : Nat} {c : Str} {fs : List (Str × DV)} (h : VR K ι H d v) (e : insAt M d = some (n, c, fs)) : ∃ a dx es, v = .ref a ∧ ι[n]? = some a ∧ H a = some (.ins (He.ga K c) dx es) ∧ FR K ι H fs es := by
  cases h with
  | @obj n a hn =>
    simp only [insAt] at e
    split at e
    · rename_i hm
      cases e
      obtain ⟨u, g, dx, es, rfl, t⟩ := R.at_ _ _ _ hn hm
      exact ⟨a, dx, es, rfl, hn, g, t⟩
    · cases e
  | _ => cases e
end
/-- o.f = value -/
def mFldS (fld : Str → Str → Bool) (f : Str) (mo mv : DS → DM → Res DV) : DSt := fun δ M => thenE δ (mv δ M) fun d M1 => thenE δ (mo δ M1) fun o M2 => match insAt M2 o with
  | some (n, c, fs) => if fld c f = true ∧ fs.length < 1000 then .nx δ (M2.set n (.ins c (putFD f d fs))) else .bad
  | none => .bad
/-- o[i] = value -/
def setD (M : DM) (o i d : DV) : Option DM := match lstAt M o, i with
  | some (n, ds), .int k => (ixN ds.length k).map fun j => M.set n (.lst (ds.set j d))
  | _, i => match dicAt M o, keyOf (.v i) with
    | some (n, kvs), some k => if kvs.length < LIM then some (M.set n (.dic false (putD kvs k d))) else none
    | _, _ => none
def gSubM (mo mi : DS → DM → Res DV) : DG := fun d δ M => match mo δ M with
  | .ok o M1 => match mi δ M1 with
    | .ok i M2 => match setD M2 o i d with
      | some M3 => .nx δ M3
      | none => .bad
    | _ => .bad
  | _ => .bad
section
variable {X : Cx} {W : WX} {o i e : Expr} {pos pos' : Pos} {f : Str} {mo mi mv : DS → DM → Res DV}
theorem is_fld {fld : Str → Str → Bool} (hF : ∀ c f, fld c f = true → L2.Cls X.K (He.ga X.K c) ∧ NoAttr X.K (He.ga X.K c) f) (ho : PE X o (tIv X.K W mo)) (hv : PE X e (tIv X.K W mv)) (hs : swapsWith e (some (.Attribute o f pos')) pos.line X.env = pure false) :
    PS X (.Assign [.Attribute o f pos'] e pos) (tIs X.K W (mFldS fld f mo mv)) := ps_of (ps_fld ho hv hs) fun D σ H ⟨ι, δ, M, hs, R, h⟩ => by
  refine ⟨ι, δ, M, hs, R, (PostS.bindE hs R h).imp ?_⟩
  rintro v H1 ⟨d, ι1, M1, A1, hs1, R1, hd, h1⟩
  refine ⟨ι1, δ, M1, hs1, R1, (PostS.bindE hs1 R1 h1).imp ?_⟩
  rintro w H2 ⟨o, ι2, M2, A2, hs2, R2, ho, h2⟩
  split at h2
  · rename_i n c fs ei
    split at h2
    · rename_i hc
      obtain ⟨a, dx, es, rfl, hn, g, t⟩ := insAt_ok R2 ho ei
      have hd2 : VR X.K ι2 H2 d v := VR.aft R1 A2 hd
      refine ⟨a, _, dx, es, rfl, g, (hF c f hc.1).1, (hF c f hc.1).2, by rw [← Paired.length t]; exact hc.2, ?_⟩
      have P := Aft.put (H := H2) (u := .ins (He.ga X.K c) dx (putF f v es)) (List.mem_of_getElem? hn) (nz_of g fun _ _ z => by cases z)
      exact h2 ι2 σ _ P (R2.put (o := .ins c (putFD f d fs)) hn ⟨dx, _, rfl, fr_putF t hd2⟩) (hs2.aft R2 P)
    · exact h2.elim
  · exact h2.elim
theorem set_dictG (hu : X.A.units + 1 < cLine) : PSet X (fun o i v H Q => ∃ a H4, o = .ref a ∧ DPut H a i v H4 ∧ Q H4) := by
  intro pins s σ H o i v ov iv u Q I ro ri rv ⟨a, H4, e, g, q⟩
  subst e; cases ro
  exact d_setItem hu I g ri rv fun s4 I4 => ⟨H4, I4, q⟩
theorem pset_alt {t t' : TSet} (h : PSet X t) (h' : PSet X t') : PSet X (fun o i v H Q => t o i v H Q ∨ t' o i v H Q) := fun pins s σ H o i v ov iv u Q I ro ri rv w => w.elim (h pins s σ H o i v ov iv u Q I ro ri rv) (h' pins s σ H o i v ov iv u Q I ro ri rv)
theorem ig_sub (hu : X.A.units + 1 < cLine) (ho : PE X o (tIv X.K W mo)) (hi : PE X i (tIv X.K W mi))
    (ha : ∀ v, assign (.Subscript o i pos) X.env v = (do
      let ov ← holding [v] (eval o X.env)
      let iv ← holding [v, ov] (eval i X.env)
      standAt pos
      holding [v, ov, iv] (setItem ov iv v)
      release [v, ov, iv] [])) : PG X (.Subscript o i pos) (tIg X.K W (gSubM mo mi)) := pg_of (pg_sub ho hi (pset_alt set_list (set_dictG hu)) ha) fun v σ H Q ⟨ι, δ, M, d, hs, R, hd, h⟩ => by
  refine ⟨ι, δ, M, hs, R, ?_⟩
  unfold gSubM at h
  cases e1 : mo δ M with
  | bad => rw [e1] at h; exact h.elim
  | exc _ _ => rw [e1] at h; exact h.elim
  | ok o M1 =>
    rw [e1] at h
    intro ι1 ov H1 A1 R1 ro
    refine ⟨ι1, δ, M1, hs.aft R A1, R1, ?_⟩
    cases e2 : mi δ M1 with
    | bad => simp only [e2] at h; exact h.elim
    | exc _ _ => simp only [e2] at h; exact h.elim
    | ok i M2 =>
      simp only [e2] at h
      intro ι2 iv H2 A2 R2 ri
      cases e3 : setD M2 o i d with
      | none => rw [e3] at h; exact h.elim
      | some M3 =>
        rw [e3] at h
        have ro2 : VR X.K ι2 H2 o ov := VR.aft R1 A2 ro
        have hd2 : VR X.K ι2 H2 d v := VR.aft R1 A2 (VR.aft R A1 hd)
        have hs2 : SR X.K ι2 H2 δ σ := (hs.aft R A1).aft R1 A2
        have A12 := A1.trans R1 A2
        have fin : ∀ {n : Nat} {a : Addr} {u : HO} {ob : DObj}, ι2[n]? = some a → (∀ o u', H2 a ≠ some (.frz o u')) → OR X.K ι2 H2 ob u → M3 = M2.set n ob → Q σ (upd H2 a u) := fun {n a u ob} hn nz ho e => by
          subst e
          have P := Aft.put (H := H2) (u := u) (List.mem_of_getElem? hn) nz ho.nt
          exact h ι2 σ _ (A12.trans R2 P) (R2.put hn ho) (hs2.aft R2 P)
        unfold setD at e3
        split at e3
        · simp only [Option.map_eq_some_iff] at e3
          obtain ⟨j, ej, rfl⟩ := e3
          obtain ⟨a, xs, rfl, hn, g, t⟩ := lstAt_ok R2 ro2 ‹_›
          cases ri
          refine .inl ⟨a, xs, _, j, rfl, rfl, g, by rw [← t.length]; exact ej, fin (ob := .lst _) hn (nz_of g fun _ _ z => by cases z) ⟨_, rfl, ?_⟩ rfl⟩
          exact VRs.set j t hd2
        · split at e3
          · split at e3
            · rename_i n kvs k e4 e5 hl
              cases e3
              obtain ⟨a, es, rfl, hn, g, t⟩ := dicAt_ok R2 ro2 e4
              cases keyOf_ok (.v ri) e5
              exact .inr ⟨a, _, rfl, DPut.k (k := k) g (lim_lt (by rw [← Paired.length t]; exact hl)), fin (ob := .dic false _) hn (nz_of g fun _ _ z => by cases z) ⟨_, rfl, FR.put t hd2⟩ rfl⟩
            · cases e3
          · cases e3
end

end
end Lk
end

section
set_option Elab.async false
set_option linter.all false
set_option maxRecDepth 100000
set_option maxHeartbeats 4000000
namespace Lk
open PySem PySem.Spec PyProof.Rows L2
noncomputable section
variable [Tbl] [Lnk]
/-! ## IV: targets that are names, iterators, loops -/
/-- a target: a name's slot, or some targets in a row -/
inductive Tg where
  | nm (i : Nat) | tp (ts : List Tg)
mutual
def asgT (M : DM) : Tg → DV → Option (List (Nat × DV))
  | .nm i, d => some [(i, d)]
  | .tp ts, d => match asS M (.v d) with
    | some ds => if ds.length = ts.length then asgTs M ts ds else none
    | none => none
def asgTs (M : DM) : List Tg → List DV → Option (List (Nat × DV))
  | [], [] => some []
  | t :: ts, d :: ds => match asgT M t d, asgTs M ts ds with
    | some p, some q => some (p ++ q)
    | _, _ => none
  | _, _ => none
end
def setsD (δ : DS) (ps : List (Nat × DV)) : DS := ps.foldl (fun δ p => δ.set p.1 (some p.2)) δ
def setsV (σ : L2.St) (ps : List (Nat × V)) : L2.St := ps.foldl (fun σ p => σ.set p.1 (some p.2)) σ
/-- the reading of a target -/
def tGn (K : PySem.W.Frag) (t : Tg) : TG := fun v σ H Q => ∃ ι M d ps, Rep K ι H M ∧ VR K ι H d v ∧ asgT M t d = some ps ∧ ∀ qs, FR K ι H ps qs → Q (setsV σ qs) H
def tGns (K : PySem.W.Frag) (ts : List Tg) : TGs := fun vs σ H Q => ∃ ι M ds ps, Rep K ι H M ∧ VRs K ι H ds vs ∧ asgTs M ts ds = some ps ∧ ∀ qs, FR K ι H ps qs → Q (setsV σ qs) H
section
variable {X : Cx} {tg : Expr} {es : List Expr} {pos : Pos}
theorem gn_name {i : Nat} {x : Str} (hN : X.N.Nodup) (hi : X.N[i]? = some x) (hx : Loc X.env.scope x) (hf : X.fn x = true ∨ X.env.scope.names.lookup x = some .local) : PG X (.Name x pos) (tGn X.K (.nm i)) := pg_of (pg_name hN hi hx hf) fun v σ H Q ⟨ι, M, d, ps, R, hd, e, h⟩ => by
  simp only [asgT] at e
  cases e
  exact h [(i, v)] (.cons ⟨rfl, hd⟩ .nil)
theorem gn_nil : PGs X [] (tGns X.K []) := pgs_of pgs_nil fun vs σ H Q ⟨ι, M, ds, ps, R, hd, e, h⟩ => by
  cases hd with
  | nil => simp only [asgTs] at e; cases e; exact ⟨rfl, h [] .nil⟩
  | cons _ _ => simp [asgTs] at e
theorem gn_cons {t : Tg} {ts : List Tg} (hg : PG X tg (tGn X.K t)) (hr : PGs X es (tGns X.K ts)) (hst : (assignEach (tg :: es) X.env).map (·.2) = assign tg X.env :: (assignEach es X.env).map (·.2)) : PGs X (tg :: es) (tGns X.K (t :: ts)) := pgs_of (pgs_cons hg hr hst) fun vs σ H Q ⟨ι, M, ds, ps, R, hd, e, h⟩ => by
  cases hd with
  | nil => simp [asgTs] at e
  | @cons d v ds vs r rs =>
    simp only [asgTs] at e
    split at e
    · rename_i p q e1 e2
      cases e
      refine ⟨v, vs, rfl, ι, M, d, p, R, r, e1, fun qs hq => ⟨ι, M, ds, q, R, rs, e2, fun qs2 hq2 => ?_⟩⟩
      have z := h (qs ++ qs2) (FR.append hq hq2)
      unfold setsV at z ⊢
      rw [List.foldl_append] at z
      exact z
    · cases e
theorem gn_tup {n k : Nat} {ts : List Tg} (hc : X.calm = true) (h : PGs X es (tGns X.K ts)) (hl : ts.length = n) (hn : (assignEach es X.env).length = n) (hst : (assignEach es X.env).findIdx? (·.1) = none) : PG X (.Tuple es k pos) (tGn X.K (.tp ts)) :=
  pg_of (pg_alt (pg_tup hc h hn hst) (pg_lst hc h hn hst)) fun v σ H Q ⟨ι, M, d, ps, R, hd, e, h⟩ => by
    simp only [asgT] at e
    split at e
    · rename_i ds es
      split at e
      · rename_i hlen
        obtain ⟨a, xs, rfl, hq, t⟩ := asS_ok R (.v hd) es
        rcases hq with hq | hq
        · exact .inr ⟨a, xs, rfl, hq, by rw [← t.length, hlen, hl], ι, M, ds, ps, R, t, e, h⟩
        · exact .inl ⟨a, xs, rfl, hq, by rw [← t.length, hlen, hl], ι, M, ds, ps, R, t, e, h⟩
      · cases e
    · cases e
end
section
variable {K : PySem.W.Frag} {ι : List Addr} {H : Hp}
theorem SR.sets : ∀ {ps : List (Nat × DV)} {qs : List (Nat × V)} {δ : DS} {σ : L2.St}, FR K ι H ps qs → SR K ι H δ σ → SR K ι H (setsD δ ps) (setsV σ qs)
  | [], [], _, _, .nil, h => h
  | (i, d) :: ps, (j, v) :: qs, δ, σ, .cons ⟨e, r⟩ t, h => by
    have e : i = j := e
    subst e
    exact SR.sets (δ := δ.set i (some d)) (σ := σ.set i (some v)) t (h.set i r)
theorem FR.fst {κ : Type} {ps : List (κ × DV)} {qs : List (κ × V)} (h : FR K ι H ps qs) : ps.map (·.1) = qs.map (·.1) := by
  induction h with
  | nil => rfl
  | cons h _ t => rw [List.map_cons, List.map_cons, t, h.1]
end
theorem wipe_set {σ : L2.St} {i : Nat} {x : Option V} : ∀ {vs : List Nat}, i ∈ vs → wipe (σ.set i x) vs = wipe σ vs
  | [], h => absurd h (by simp)
  | v :: vs, h => by
    unfold wipe
    by_cases e : i ∈ vs
    · rw [wipe_set e]
    · have e2 : i = v := by rcases List.mem_cons.mp h with z | z; exact z; exact absurd z e
      subst e2
      have : ∀ ws : List Nat, i ∉ ws → wipe (σ.set i x) ws = (wipe σ ws).set i x := fun ws => by
        induction ws with
        | nil => intro _; rfl
        | cons w ws ih =>
          intro hn
          simp only [List.mem_cons, not_or] at hn
          show (wipe (σ.set i x) ws).set w none = ((wipe σ ws).set w none).set i x
          rw [ih hn.2, List.set_comm _ _ hn.1]
      rw [this vs e, List.set_set]
theorem wipe_sets {vs : List Nat} : ∀ {qs : List (Nat × V)} {σ : L2.St}, (∀ q ∈ qs, q.1 ∈ vs) → wipe (setsV σ qs) vs = wipe σ vs
  | [], _, _ => rfl
  | q :: qs, σ, h => by
    show wipe (setsV (σ.set q.1 (some q.2)) qs) vs = _
    rw [wipe_sets fun p hp => h p (List.mem_cons_of_mem _ hp), wipe_set (h q (List.mem_cons_self ..))]
/-! iterators -/
/-- what is walked: the items; an object that must stay as it is -/
structure ItV where
  xs : List DV
  guard : Option (Nat × DObj)
def okIt (it : ItV) (M : DM) : Bool := match it.guard with
  | none => true
  | some (n, o) => decide (M[n]? = some o)
/-- the iterator yields the items as long as the object stays -/
def ItR (K : PySem.W.Frag) (ι : List Addr) (H : Hp) (it : ItV) (J : It) : Prop := ∀ ι2 H2 M2, Aft ι H ι2 H2 → Rep K ι2 H2 M2 → okIt it M2 = true → ∀ i : Nat,
  (∀ d, it.xs[i]? = some d → J.go i H2 ∧ ∀ x H3, J.yld i H2 x H3 → Same H2 H3 ∧ VR K ι2 H3 d x) ∧ (it.xs.length ≤ i → J.stop i H2)
def relI (K : PySem.W.Frag) : RelT ItV It := fun _ ι' H' it J => ItR K ι' H' it J
theorem early_I {K : PySem.W.Frag} : Early (relI K) := ⟨fun _ _ h => h⟩
abbrev DI := DS → DM → Res ItV
theorem pi_of {X : Cx} {tg iter : Expr} {t t' : TI} (h : PI X tg iter t) (k : ∀ σ H R, t' σ H R → t σ H R) : PI X tg iter t' := ⟨fun pins s σ H R I w => h.run pins s σ H R I (k σ H R w)⟩
theorem pi_alt {X : Cx} {tg iter : Expr} {t t' : TI} (h : PI X tg iter t) (h' : PI X tg iter t') : PI X tg iter (fun σ H R => t σ H R ∨ t' σ H R) := ⟨fun pins s σ H R I w => w.elim (h.run pins s σ H R I) (h'.run pins s σ H R I)⟩
/-- a loop over the items that are left -/
def loopF (it : ItV) (t : Tg) (mb : DSt) : List DV → DS → DM → SOut
  | [], δ, M => if okIt it M = true then .nx δ M else .bad
  | d :: ds, δ, M => if okIt it M = true then match asgT M t d with
    | some ps => match mb (setsD δ ps) M with
      | .nx δ2 M2 => loopF it t mb ds δ2 M2
      | .ct δ2 M2 => loopF it t mb ds δ2 M2
      | .brk δ2 M2 => .nx δ2 M2
      | o => o
    | none => .bad
    else .bad
def mFor (mi : DI) (t : Tg) (mb : DSt) : DSt := fun δ M => thenE δ (mi δ M) fun it M1 => loopF it t mb it.xs δ M1
section
variable {X : Cx} {W : WX} {tg iter : Expr} {body : List Stmt} {pos : Pos}
theorem is_for {mi : DI} {t : Tg} {mb : DSt} (hp : PassesOwn (model X.prog X.w) X.A X.env X.xe) (hc : X.calm = true) (hi : PI X tg iter (tG X.K W (relI X.K) mi)) (hg : PG X tg (tGn X.K t)) (hb : PSs X body (tIs X.K W mb)) (hsf : ∀ x, foldedSetIterable iter X.env x = pure x) :
    PS X (.For tg iter body [] pos) (tIs X.K W (mFor mi t mb)) := ps_of (ps_for hp hc hi hg hb hsf) fun D σ H ⟨ι, δ, M, hs, R, h⟩ => by
  refine ⟨ι, δ, M, hs, R, (PostS.bindE hs R h).imp ?_⟩
  rintro J H1 ⟨it, ι1, M1, A1, hs1, R1, hit, h1⟩
  have hit : ItR X.K ι1 H1 it J := hit
  refine ⟨fun i m σ H => m = it.xs.length - i ∧ i ≤ it.xs.length ∧ ∃ ι δ M, Aft ι1 H1 ι H ∧ SR X.K ι H δ σ ∧ Rep X.K ι H M ∧ PostS X.K W ι H (loopF it t mb (it.xs.drop i) δ M) D, ⟨_, rfl, Nat.zero_le _, ι1, δ, M1, Aft.refl _ _, hs1, R1, h1⟩, ?_⟩
  rintro i m σ2 H2 ⟨rfl, le, ι2, δ2, M2, A2, hs2, R2, h2⟩
  by_cases hi : i < it.xs.length
  · right
    have e0 : it.xs.drop i = it.xs[i] :: it.xs.drop (i + 1) := List.drop_eq_getElem_cons hi
    rw [e0] at h2
    simp only [loopF] at h2
    split at h2
    · rename_i hok
      obtain ⟨go, yl⟩ := (hit ι2 H2 M2 A2 R2 hok i).1 it.xs[i] (List.getElem?_eq_getElem hi)
      refine ⟨go, fun σ H => ∃ ι δ M, Aft ι1 H1 ι H ∧ SR X.K ι H δ σ ∧ Rep X.K ι H M ∧ PostS X.K W ι H (loopF it t mb (it.xs.drop (i + 1)) δ M) D, fun σ' H' q => ⟨_, by omega, rfl, by omega, q⟩, fun x H3 hy => ?_⟩
      obtain ⟨S, rx⟩ := yl x H3 hy
      have A3 : Aft ι2 H2 ι2 H3 := Aft.same S
      have R3 := R2.same S
      split at h2
      · rename_i ps ea
        refine ⟨ι2, M2, it.xs[i], ps, R3, rx, ea, fun qs hq => ⟨ι2, setsD δ2 ps, M2, SR.sets hq (hs2.aft R2 A3), R3, ?_⟩⟩
        have A13 := A2.trans R2 A3
        cases eb : mb (setsD δ2 ps) M2 with
        | nx δ4 M4 =>
          rw [eb] at h2
          exact fun ι4 σ4 H4 A4 R4 hs4 => ⟨ι4, δ4, M4, A13.trans R3 A4, hs4, R4, PostS.later (A3.trans R3 A4) R4 h2⟩
        | ct δ4 M4 =>
          rw [eb] at h2
          exact fun ι4 σ4 H4 A4 R4 hs4 => ⟨ι4, δ4, M4, A13.trans R3 A4, hs4, R4, PostS.later (A3.trans R3 A4) R4 h2⟩
        | brk δ4 M4 => rw [eb] at h2; exact PostS.later A3 R3 h2
        | ret r M4 => rw [eb] at h2; exact PostS.later A3 R3 h2
        | exc e δ4 M4 => rw [eb] at h2; exact PostS.later A3 R3 h2
        | bad => rw [eb] at h2; exact h2.elim
      · exact h2.elim
    · exact h2.elim
  · left
    have e1 : i = it.xs.length := by omega
    subst e1
    rw [List.drop_length] at h2
    simp only [loopF] at h2
    split at h2
    · rename_i hok
      exact ⟨(hit ι2 H2 M2 A2 R2 hok _).2 (Nat.le_refl _), PostS.nx h2 R2 hs2⟩
    · exact h2.elim
/-- while, by the number of turns allowed -/
def mWhile (n : Nat) (c : DT) (mb : DSt) : DSt := fun δ M => match n with
  | 0 => .bad
  | n + 1 => thenE δ (c δ M) fun k M1 => if k = true then match mb δ M1 with
    | .nx δ2 M2 => mWhile n c mb δ2 M2
    | .ct δ2 M2 => mWhile n c mb δ2 M2
    | .brk δ2 M2 => .nx δ2 M2
    | o => o
    else .nx δ M1
theorem is_while {c : Expr} {n : Nat} {mc : DT} {mb : DSt} (hp : PassesOwn (model X.prog X.w) X.A X.env X.xe) (hc : PT X c (tIt X.K W mc)) (hb : PSs X body (tIs X.K W mb)) : PS X (.While c body [] pos) (tIs X.K W (mWhile n mc mb)) := ps_of (ps_while hp hc hb) fun D σ H ⟨ι, δ, M, hs, R, h⟩ => by
  refine ⟨fun m σ H => ∃ ι δ M, SR X.K ι H δ σ ∧ Rep X.K ι H M ∧ PostS X.K W ι H (mWhile m mc mb δ M) D, ⟨n, ι, δ, M, hs, R, h⟩, ?_⟩
  rintro m σ2 H2 ⟨ι2, δ2, M2, hs2, R2, h2⟩
  cases m with
  | zero => exact h2.elim
  | succ m =>
    refine ⟨ι2, δ2, M2, hs2, R2, (PostS.bindE hs2 R2 h2).imp ?_⟩
    rintro v H3 ⟨k, ι3, M3, A3, hs3, R3, hk, h3⟩
    have hk : k = v := hk
    subst hk
    by_cases kt : k = true
    · rw [if_pos kt] at h3 ⊢
      refine ⟨fun σ H => ∃ ι δ M, SR X.K ι H δ σ ∧ Rep X.K ι H M ∧ PostS X.K W ι H (mWhile m mc mb δ M) D, fun σ' H' q => ⟨m, Nat.lt_succ_self m, q⟩, ι3, δ2, M3, hs3, R3, ?_⟩
      cases eb : mb δ2 M3 with
      | nx δ4 M4 => rw [eb] at h3; exact fun ι4 σ4 H4 A4 R4 hs4 => ⟨ι4, δ4, M4, hs4, R4, PostS.later A4 R4 h3⟩
      | ct δ4 M4 => rw [eb] at h3; exact fun ι4 σ4 H4 A4 R4 hs4 => ⟨ι4, δ4, M4, hs4, R4, PostS.later A4 R4 h3⟩
      | brk δ4 M4 => rw [eb] at h3; exact h3
      | ret r M4 => rw [eb] at h3; exact h3
      | exc e δ4 M4 => rw [eb] at h3; exact h3
      | bad => rw [eb] at h3; exact h3.elim
    · rw [if_neg kt] at h3 ⊢; exact PostS.nx h3 R3 hs3
end

end
end Lk
end

section
set_option Elab.async false
set_option linter.all false
set_option maxRecDepth 100000
set_option maxHeartbeats 4000000
namespace Lk
open PySem PySem.Spec PyProof.Rows L2
noncomputable section
variable [Tbl] [Lnk]
/-! ## IV: what is walked; locks; comprehensions -/
def kDV : Key → DV
  | .inl i => .int i
  | .inr s => .str s
theorem kDV_ok {K : PySem.W.Frag} {ι : List Addr} {H : Hp} (k : Key) : VR K ι H (kDV k) (kV k) := by cases k; exact .int _; exact .str _
def itOf (M : DM) : RV → Option ItV
  | .lst ds => some ⟨ds, none⟩
  | .v (.tup ds) => some ⟨ds, none⟩
  | .v (.str s) => some ⟨s.cps.toList.map fun c => .str ⟨#[c]⟩, none⟩
  | .v (.scr is) => some ⟨is.map .int, none⟩
  | .v (.obj n) => match M[n]? with
    | some (.lst ds) => some ⟨ds, some (n, .lst ds)⟩
    | some (.dic true kvs) => some ⟨kvs.map fun p => kDV p.1, some (n, .dic true kvs)⟩
    | _ => none
  | _ => none
section
variable {K : PySem.W.Frag} {ι ι' : List Addr} {H H' : Hp} {M M' : DM}
theorem itl_one {a : Addr} {xs : List V} {ds : List DV} (g : SqL K H a xs) (t : VRs K ι H ds xs) (i : Nat) :
    (∀ d, ds[i]? = some d → (Itl K a).go i H ∧ ∀ x H3, (Itl K a).yld i H x H3 → Same H H3 ∧ VR K ι H3 d x) ∧ (ds.length ≤ i → (Itl K a).stop i H) := by
  refine ⟨fun d e => ?_, fun h => ⟨xs, g, by rw [← t.length]; exact h⟩⟩
  obtain ⟨v, hv, r⟩ := t.get e
  refine ⟨⟨xs, v, g, hv⟩, fun x H3 hy => ?_⟩
  obtain ⟨rfl, h⟩ := hy
  have := h xs g
  rw [hv] at this
  cases this
  exact ⟨Same.refl _, r⟩
theorem itt_one {a : Addr} {xs : List V} {ds : List DV} (g : SqT K H a xs) (t : VRs K ι H ds xs) (i : Nat) :
    (∀ d, ds[i]? = some d → (Itt K a).go i H ∧ ∀ x H3, (Itt K a).yld i H x H3 → Same H H3 ∧ VR K ι H3 d x) ∧ (ds.length ≤ i → (Itt K a).stop i H) := by
  refine ⟨fun d e => ?_, fun h => ⟨xs, g, by rw [← t.length]; exact h⟩⟩
  obtain ⟨v, hv, r⟩ := t.get e
  refine ⟨⟨xs, v, g, hv⟩, fun x H3 hy => ?_⟩
  obtain ⟨rfl, h⟩ := hy
  have := h xs g
  rw [hv] at this
  cases this
  exact ⟨Same.refl _, r⟩
theorem okIt_some {n : Nat} {o : DObj} {xs : List DV} (h : okIt ⟨xs, some (n, o)⟩ M = true) : M[n]? = some o := by
  unfold okIt at h
  exact of_decide_eq_true h
/-- the list at n, or a new one -/
theorem itR_list (R : Rep K ι H M) {r : RV} {v : V} {it : ItV} {ds : List DV} (h : RVR K ι H r v) (e : itOf M r = some it) (el : asL M r = some ds) : ∃ a, v = .ref a ∧ (∃ xs, SqL K H a xs) ∧ ItR K ι H it (Itl K a) := by
  cases h with
  | @lst ds' a xs n g t =>
    cases e; cases el
    exact ⟨a, rfl, ⟨xs, SqL.of g⟩, fun ι2 H2 M2 A R2 _ i => itl_one (SqL.of (A.fr a n _ g)) (t.aft R A) i⟩
  | dic _ _ _ => cases el
  | v h => cases h with
    | @obj n a hn =>
      simp only [asL] at el
      split at el
      · rename_i ds' hm
        cases el
        simp only [itOf, hm] at e
        cases e
        obtain ⟨u, g, xs, rfl, t⟩ := R.at_ _ _ _ hn hm
        refine ⟨a, rfl, ⟨xs, SqL.of g⟩, fun ι2 H2 M2 A R2 ok i => ?_⟩
        obtain ⟨u2, g2, xs2, rfl, t2⟩ := R2.at_ n a _ (A.at_ hn) (okIt_some ok)
        exact itl_one (SqL.of g2) t2 i
      · cases el
    | @scr a is hs =>
      cases e; cases el
      exact ⟨a, rfl, ⟨_, Lnk.scq R.x hs⟩, fun ι2 H2 M2 A R2 _ i => itl_one (Lnk.scq R2.x hs) (vrs_ints is) i⟩
    | _ => simp [asL] at el
theorem itR_tup (R : Rep K ι H M) {v : V} {ds : List DV} (h : RVR K ι H (.v (.tup ds)) v) : ∃ a, v = .ref a ∧ (∃ xs, SqT K H a xs) ∧ ItR K ι H ⟨ds, none⟩ (Itt K a) := by
  obtain ⟨a, xs, rfl, q, t⟩ := vr_tup h
  exact ⟨a, rfl, ⟨xs, q⟩, fun ι2 H2 M2 A R2 _ i => itt_one (sqT_aft R A q) (t.aft R A) i⟩
theorem itR_str {s : Str} : ItR K ι H ⟨s.cps.toList.map fun c => .str ⟨#[c]⟩, none⟩ (Its s) := fun ι2 H2 M2 A R2 _ i => by
  refine ⟨fun d e => ?_, fun h => ?_⟩
  · simp only [List.getElem?_map, Option.map_eq_some_iff] at e
    obtain ⟨c, e, rfl⟩ := e
    have e' : s.cps[i]? = some c := by rw [← Array.getElem?_toList]; exact e
    refine ⟨(Array.getElem?_eq_some_iff.mp e').1, fun x H3 hy => ?_⟩
    obtain ⟨rfl, c', h1, rfl⟩ := hy
    rw [e'] at h1; cases h1
    exact ⟨Same.refl _, .str _⟩
  · show s.cps.size ≤ i
    simpa using h
/-- a locked dict at n -/
theorem dic_locked (R : Rep K ι H M) {n : Nat} {a : Addr} {kvs : List (Key × DV)} (hn : ι[n]? = some a) (hm : M[n]? = some (.dic true kvs)) : ∃ o es, H a = some (.frz o (.dK es)) ∧ FR K ι H kvs es ∧
    ∀ ι2 H2 M2, Aft ι H ι2 H2 → Rep K ι2 H2 M2 → M2[n]? = some (.dic true kvs) → H2 a = some (.frz o (.dK es)) ∧ FR K ι2 H2 kvs es := by
  obtain ⟨u, g, o, es, rfl, t⟩ := R.at_ _ _ _ hn hm
  refine ⟨o, es, g, t, fun ι2 H2 M2 A R2 ok => ?_⟩
  have g2 := A.fz _ _ _ g
  obtain ⟨u2, g2', o2, es2, rfl, t2⟩ := R2.at_ n a _ (A.at_ hn) ok
  rw [g2] at g2'
  cases g2'
  exact ⟨g2, t2⟩
theorem FR.get {κ : Type} : ∀ {kvs : List (κ × DV)} {es : List (κ × V)} {i : Nat} {p : κ × DV}, FR K ι H kvs es → kvs[i]? = some p → ∃ v, es[i]? = some (p.1, v) ∧ VR K ι H p.2 v
  | [], _, _, _, _, e => by simp at e
  | _ :: _, q :: _, 0, p, .cons h _, e => by simp at e; subst e; exact ⟨q.2, by simp [h.1], h.2⟩
  | _ :: kvs, _ :: _, i + 1, p, .cons _ t, e => have q := FR.get (kvs := kvs) (i := i) (p := p) t (by simpa using e); q.elim fun v h => ⟨v, by simpa using h.1, h.2⟩
theorem itR_keys (R : Rep K ι H M) {n : Nat} {a : Addr} {kvs : List (Key × DV)} (hn : ι[n]? = some a) (hm : M[n]? = some (.dic true kvs)) : ∃ o es, H a = some (.frz o (.dK es)) ∧ ItR K ι H ⟨kvs.map fun p => kDV p.1, some (n, .dic true kvs)⟩ (Itk a o es) := by
  obtain ⟨o, es, g, t, later⟩ := dic_locked R hn hm
  refine ⟨o, es, g, fun ι2 H2 M2 A R2 ok i => ?_⟩
  obtain ⟨g2, t2⟩ := later ι2 H2 M2 A R2 (okIt_some ok)
  refine ⟨fun d e => ?_, fun h => ⟨g2, by rw [← FR.length t2]; simpa using h⟩⟩
  simp only [List.getElem?_map, Option.map_eq_some_iff] at e
  obtain ⟨p, e, rfl⟩ := e
  obtain ⟨v, hv, r⟩ := FR.get t2 e
  refine ⟨⟨g2, (List.getElem?_eq_some_iff.mp hv).1⟩, fun x H3 hy => ?_⟩
  obtain ⟨rfl, k, w, h1, rfl⟩ := hy
  rw [hv] at h1; cases h1
  exact ⟨Same.refl _, kDV_ok _⟩
theorem itR_vals (R : Rep K ι H M) {n : Nat} {a : Addr} {kvs : List (Key × DV)} (hn : ι[n]? = some a) (hm : M[n]? = some (.dic true kvs)) : ∃ o es, H a = some (.frz o (.dK es)) ∧ ItR K ι H ⟨kvs.map (·.2), some (n, .dic true kvs)⟩ (Itd a o es) := by
  obtain ⟨o, es, g, t, later⟩ := dic_locked R hn hm
  refine ⟨o, es, g, fun ι2 H2 M2 A R2 ok i => ?_⟩
  obtain ⟨g2, t2⟩ := later ι2 H2 M2 A R2 (okIt_some ok)
  refine ⟨fun d e => ?_, fun h => ⟨g2, by rw [← FR.length t2]; simpa using h⟩⟩
  simp only [List.getElem?_map, Option.map_eq_some_iff] at e
  obtain ⟨p, e, rfl⟩ := e
  obtain ⟨v, hv, r⟩ := FR.get t2 e
  refine ⟨⟨g2, (List.getElem?_eq_some_iff.mp hv).1⟩, fun x H3 hy => ?_⟩
  obtain ⟨rfl, k, h1⟩ := hy
  rw [hv] at h1; cases h1
  exact ⟨Same.refl _, r⟩
theorem itR_items (R : Rep K ι H M) {n : Nat} {a : Addr} {kvs : List (Key × DV)} (hn : ι[n]? = some a) (hm : M[n]? = some (.dic true kvs)) : ∃ o es, H a = some (.frz o (.dK es)) ∧ ItR K ι H ⟨kvs.map fun p => .tup [kDV p.1, p.2], some (n, .dic true kvs)⟩ (Iti a o es) := by
  obtain ⟨o, es, g, t, later⟩ := dic_locked R hn hm
  refine ⟨o, es, g, fun ι2 H2 M2 A R2 ok i => ?_⟩
  obtain ⟨g2, t2⟩ := later ι2 H2 M2 A R2 (okIt_some ok)
  refine ⟨fun d e => ?_, fun h => ⟨g2, by rw [← FR.length t2]; simpa using h⟩⟩
  simp only [List.getElem?_map, Option.map_eq_some_iff] at e
  obtain ⟨p, e, rfl⟩ := e
  obtain ⟨v, hv, r⟩ := FR.get t2 e
  refine ⟨⟨g2, (List.getElem?_eq_some_iff.mp hv).1⟩, fun x H3 hy => ?_⟩
  obtain ⟨T, k, w, h1, rfl, hT, rfl⟩ := hy
  rw [hv] at h1; cases h1
  have S := Same.new (u := .tup [kV p.1, v]) hT
  exact ⟨S, .tup (SqT.of upd_same) (.cons (kDV_ok _) (.cons (r.aft R2 (Aft.same S)) .nil))⟩
end
def mIter (m : DE) : DI := fun δ M => (m δ M).bind fun r M1 => match itOf M1 r with
  | some it => .ok it M1
  | none => .bad
/-- kinds of walks over a dict: keys, values, pairs -/
def walkD (k : Nat) (kvs : List (Key × DV)) : List DV := match k with
  | 0 => kvs.map fun p => kDV p.1
  | 1 => kvs.map (·.2)
  | _ => kvs.map fun p => .tup [kDV p.1, p.2]
/-- a locked dict -/
def dicL (M : DM) (d : DV) : Option (Nat × List (Key × DV)) := match d with
  | .obj n => match M[n]? with
    | some (.dic true kvs) => some (n, kvs)
    | _ => none
  | _ => none
theorem dicL_ok {M : DM} {d : DV} {n : Nat} {kvs : List (Key × DV)} (e : dicL M d = some (n, kvs)) : d = .obj n ∧ M[n]? = some (.dic true kvs) := by
  cases d with
  | obj k =>
    simp only [dicL] at e
    split at e
    · rename_i hm; cases e; exact ⟨rfl, hm⟩
    · cases e
  | _ => cases e
def itDict (k : Nat) (M : DM) (d : DV) : Option ItV := (dicL M d).map fun p => ⟨walkD k p.2, some (p.1, .dic true p.2)⟩
def mIterD (k : Nat) (m : DS → DM → Res DV) : DI := fun δ M => (m δ M).bind fun d M1 => match itDict k M1 d with
  | some it => .ok it M1
  | none => .bad
section
variable {X : Cx} {W : WX} {tg e : Expr} {m : DE}
theorem ii_iter (h : PE X e (tI X.K W m)) : PI X tg e (tG X.K W (relI X.K) (mIter m)) :=
  pi_of (pi_alt (pi_list h) (pi_alt (pi_tup h) (pi_alt (pi_str h) (pi_keys h)))) fun σ H Rr ⟨ι, δ, M, hs, R, hp⟩ => by
    unfold mIter at hp
    cases em : m δ M with
    | bad => rw [em] at hp; exact hp.elim
    | exc x M' => rw [em] at hp; exact .inl ⟨ι, δ, M, hs, R, by rw [em]; exact hp⟩
    | ok r M1 =>
      rw [em] at hp
      have hp : Post X.K W σ ι H (relI X.K) (match itOf M1 r with | some it => .ok it M1 | none => .bad) Rr := hp
      cases ei : itOf M1 r with
      | none => rw [ei] at hp; exact hp.elim
      | some it =>
        rw [ei] at hp
        cases el : asL M1 r with
        | some ds =>
          refine .inl ⟨ι, δ, M, hs, R, ?_⟩
          rw [em]
          intro ι' v H' A R' rr
          obtain ⟨a, rfl, hq, hi⟩ := itR_list R' rr.1 ei el
          exact ⟨a, rfl, hq, hp ι' _ H' A R' hi⟩
        | none =>
          cases r with
          | lst ds => cases el
          | dic kvs => cases ei
          | v d => cases d with
            | tup ds =>
              refine .inr (.inl ⟨ι, δ, M, hs, R, ?_⟩)
              rw [em]
              intro ι' v H' A R' rr
              cases ei
              obtain ⟨a, rfl, hq, hi⟩ := itR_tup R' rr.1
              exact ⟨a, rfl, hq, hp ι' _ H' A R' hi⟩
            | str s =>
              refine .inr (.inr (.inl ⟨ι, δ, M, hs, R, ?_⟩))
              rw [em]
              intro ι' v H' A R' rr
              cases ei
              cases vr_str rr.1
              exact ⟨s, rfl, hp ι' _ H' A R' itR_str⟩
            | obj n =>
              refine .inr (.inr (.inr ⟨ι, δ, M, hs, R, ?_⟩))
              rw [em]
              intro ι' v H' A R' rr
              have rr1 := rr.1
              cases rr1 with
              | v rr1 => cases rr1 with
                | @obj _ a hn =>
                  simp only [itOf] at ei
                  split at ei
                  · rename_i hm; simp only [asL, hm] at el; cases el
                  · rename_i kvs hm
                    cases ei
                    obtain ⟨o, es, g, hi⟩ := itR_keys R' hn hm
                    exact ⟨a, o, rfl, .inl ⟨es, g, hp ι' _ H' A R' hi⟩⟩
                  · cases ei
            | non => cases ei
            | bl _ => cases ei
            | int _ => cases ei
            | glo _ => cases ei
            | ty _ => cases ei
            | exn => cases ei
            | scr _ => cases el
variable {n : DS → DM → Res DV} {apos cpos tpos : Pos} {elts : List Expr} {kk : Nat}
theorem ii_dict {k : Nat} {J : Addr → Obj → List (Key × V) → It} (hJ : ∀ {K : PySem.W.Frag} {ι : List Addr} {H : Hp} {M : DM} {n : Nat} {a : Addr} {kvs : List (Key × DV)}, Rep K ι H M → ι[n]? = some a → M[n]? = some (.dic true kvs) → ∃ o es, H a = some (.frz o (.dK es)) ∧ ItR K ι H ⟨walkD k kvs, some (n, .dic true kvs)⟩ (J a o es))
    {it : Expr} (h : PI X tg it (fun σ H R => tIv X.K W n σ H fun x H1 => ∃ d o kvs, x = .ref d ∧ H1 d = some (.frz o (.dK kvs)) ∧ R (J d o kvs) H1)) : PI X tg it (tG X.K W (relI X.K) (mIterD k n)) := pi_of h fun σ H Rr ⟨ι, δ, M, hs, R, hp⟩ => by
  refine ⟨ι, δ, M, hs, R, (Post.bind early_I hs R hp).imp ?_⟩
  rintro v H1 ⟨d, ι1, M1, A1, hs1, R1, hd, h1⟩
  have hd : VR X.K ι1 H1 d v := hd
  cases ei : itDict k M1 d with
  | none => simp only [ei] at h1; exact h1.elim
  | some it =>
    simp only [ei] at h1
    unfold itDict at ei
    simp only [Option.map_eq_some_iff] at ei
    obtain ⟨⟨m, kvs⟩, ei, rfl⟩ := ei
    obtain ⟨rfl, hm⟩ := dicL_ok ei
    cases hd with
    | @obj _ a hn =>
      obtain ⟨o, es, g, hi⟩ := hJ R1 hn hm
      exact ⟨a, o, es, rfl, g, Post.ret h1 R1 hi⟩
theorem ii_items (h : PE X e (tIv X.K W n)) (hb : PI X (.Tuple elts kk tpos) (.Call (.Attribute e "items" apos) [] [] cpos) (iItems (tIv X.K W n))) : PI X (.Tuple elts kk tpos) (.Call (.Attribute e "items" apos) [] [] cpos) (tG X.K W (relI X.K) (mIterD 2 n)) := ii_dict (k := 2) (J := Iti) (fun R hn hm => itR_items R hn hm) hb
theorem ii_vals (hb : PI X tg (.Call (.Attribute e "values" apos) [] [] cpos) (iVals (tIv X.K W n))) : PI X tg (.Call (.Attribute e "values" apos) [] [] cpos) (tG X.K W (relI X.K) (mIterD 1 n)) := ii_dict (k := 1) (J := Itd) (fun R hn hm => itR_vals R hn hm) hb
end

end
end Lk
end

section
set_option Elab.async false
set_option linter.all false
set_option maxRecDepth 100000
set_option maxHeartbeats 4000000
namespace Lk
open PySem PySem.Spec PyProof.Rows L2
noncomputable section
variable [Tbl] [Lnk]
/-! ### d.update(e) -/
def tDUpd (td ty : TE) : TE := fun σ H Q => td σ H fun x H1 => ∃ a, x = .ref a ∧ IsD H1 a ∧ ty σ H1 fun y H2 => ∃ b kvs more, y = .ref b ∧ a ≠ b ∧ H2 a = some (.dK kvs) ∧ Rd H2 b (.dK more) ∧ kvs.length + more.length ≤ sizeLine ∧ Q .non (upd H2 a (.dK (mergeK kvs more)))
/-- a merge has at most the rows of both -/
theorem mergeK_le (more : List (Key × V)) : ∀ kvs : List (Key × V), (mergeK kvs more).length ≤ kvs.length + more.length := by
  induction more with
  | nil => exact fun kvs => Nat.le_refl _
  | cons row rest more_ => exact fun kvs => Nat.le_trans (more_ (putK kvs row.1 row.2)) (by have := length_putK kvs row.1 row.2; simp only [List.length_cons]; omega)
/-- the call itself: the first dict holds the merge, all else is as it was -/
theorem upd_call {X : Cx} {pins : List (Addr × Obj)} {σ : L2.St} {H : Hp} {s : Shared} {one two : Addr} {kvs more : List (Key × V)} {A : Around} {E : Value → Shared → Prop} {Q : Value → Shared → Prop} (I : Inv X pins σ H s) (at1 : H one = some (.dK kvs)) (at2 : Rd H two (.dK more)) (apart_ : one ≠ two)
    (few : kvs.length + more.length ≤ sizeLine) (told : ∀ s', Inv X pins σ (upd H one (.dK (mergeK kvs more))) s' → Q .none s') : wpAny (model X.prog X.w) A (call (.builtin "dict.update") [.ref one, .ref two]) Q E s :=
  have ⟨_, mod1, vs1, rel1, dict1⟩ := dk_of I.hok at1
  have ⟨_, mod2, vs2, rel2, dict2⟩ := dk_rd I.hok at2
  call_meetsIn PySem.F.slot_dict_update dict1.typeIs PySem.F.entry_dict_update (PySem.F.args_dict_update_2 _ _) (meets_dict_update (mixKind X.prog X.w) one two apart_ mod2)
    ⟨vs1, vs2, dict1, dict2, by rw [← rel1.length, ← rel2.length]; exact few, fun heap' dict' _ rest => told _ <|
      d_write (t' := s.toks) I (by rw [at1]; trivial) rest (let ⟨ob, _, _, there, _⟩ := dict'; ⟨ob, there⟩) (dk_new (Nat.le_trans (mergeK_le more kvs) few) mod1 (rel2.merge rel1) dict')⟩
theorem pe_dupd {X : Cx} {o e : Expr} {apos cpos : Pos} {td ty : TE} (ho : PE X o td) (he : PE X e ty) (m : M1 X o "update" apos e cpos) : PE X (.Call (.Attribute o "update" apos) [e] [] cpos) (tDUpd td ty) where
  run pins s σ H Q I want := wpAny_Call_method m.base m.few m.line PySem.F.plainAttrs_dict PySem.F.slot_dict_update PySem.F.type_dict_update <| thn (ho.run pins s σ H _ I want) fun u s1 ⟨x, H1, I1, rx, one, ex, isd, rest⟩ => by
    subst ex; cases rx
    have ⟨ty1, ty2, _⟩ := isD_at I1 isd
    refine ⟨ty1, ty2, m.trees ▸ Calls.callWith_builtin rfl (Calls.evalArgs_plain (Calls.spliced_cons (thn (he.run pins s1 σ H1 _ I1 rest) fun v s2 ⟨y, H2, I2, ry, two, kvs, more, ey, apart_, at1, at2, few, told⟩ => Calls.spliced_nil ?_)))⟩
    subst ey; cases ry
    exact upd_call I2 at1 at2 apart_ few fun s3 I3 => ⟨.non, _, I3, rfl, told⟩

/-! ### x.rsplit(sep, k) -/
/-- how many pieces there can be -/
theorem rsplit_few (a b : Str) (k : Int) (room : a.length + 2 ≤ sizeLine) : (Builtin.Str.partsBetween a (Builtin.Str.occurrencesFromRight a b (limitOf a k)) b.length).length ≤ sizeLine ∧ (PySem.Txt.rsplitMax a b k).length ≤ sizeLine := by
  have most : (Builtin.Str.partsBetween a (Builtin.Str.occurrencesFromRight a b (limitOf a k)) b.length).length ≤ sizeLine := by have := StrLaws.occR_length_le_len a b (limitOf a k); rw [length_partsBetween]; omega
  have one : ∀ z : Str, [z].length ≤ sizeLine := fun _ => smallN (by show 1 ≤ 1000; decide)
  refine ⟨most, ?_⟩
  unfold PySem.Txt.rsplitMax
  repeat' split
  all_goals first | exact one _ | exact most
theorem mt_rsplitMax {X : Cx} : MtR X "str.rsplit" (fun x xs H Q => ∃ (a b : Str) (k : Int), x = .str a ∧ xs = [.str b, .int k] ∧ (b.length == 0) = false ∧ -(2 ^ 63) ≤ k ∧ k < 2 ^ 63 ∧ a.length + 2 ≤ sizeLine ∧ rNewStrs (PySem.Txt.rsplitMax a b k) H Q) := fun pins s σ H x xs v us Q I rx rs ⟨a, b, k, ex, exs, full, low, high, room, want⟩ => by
  subst ex exs
  obtain ⟨t, rfl⟩ := rx
  obtain ⟨_, rest1, rfl, ⟨u, rfl⟩, rs2⟩ : ∃ u1 r, us = u1 :: r ∧ RelV (.str b) u1 ∧ Vals [.int k] r := by cases rs with | cons r1 r2 => exact ⟨_, _, rfl, r1, r2⟩
  obtain ⟨_, rfl, ⟨n, rfl⟩⟩ := vals1 rs2
  have fits : (decide (k < -(2 ^ 63 : Int)) || decide (k ≥ 2 ^ 63)) = false := Bool.or_eq_false_iff.mpr ⟨decide_eq_false (by omega), decide_eq_false (by omega)⟩
  have ⟨few, fewR⟩ := rsplit_few a b k room
  -- the call goes by one of three roads; in each the pieces laid are those of rsplitMax
  cases c1 : (decide (a.length < b.length) || decide (Builtin.Str.strKind a < Builtin.Str.strKind b)) with
  | true => exact call_meets PySem.F.slot_str_rsplit (typeIs_str _ _ _) PySem.F.entry_str_rsplit (PySem.F.args_str_rsplit_3 _ _ _) (meets_str_rsplit_max_cannot_occur a b k t u n fits c1) (laid_strs (l := [(a, t)]) (k := s.toks) I (if_pos c1).symm fewR want)
  | false =>
    have no1 := ne_true_of_eq_false c1
    cases c2 : (Builtin.Str.occurrencesFromRight a b (limitOf a k)).isEmpty with
    | true => exact call_meets PySem.F.slot_str_rsplit (typeIs_str _ _ _) PySem.F.entry_str_rsplit (PySem.F.args_str_rsplit_3 _ _ _) (meets_str_rsplit_max_not_found a b k t u n fits c1 full c2) (laid_strs (l := [(a, t)]) (k := s.toks) I ((if_neg no1).trans (if_pos c2)).symm fewR want)
    | false =>
      refine call_meets PySem.F.slot_str_rsplit (typeIs_str _ _ _) PySem.F.entry_str_rsplit (PySem.F.args_str_rsplit_3 _ _ _) (meets_str_rsplit_sep_max a b k t u n fits c1 full c2 (by omega) few) ?_
      rw [strsFrom_eq]
      exact laid_strs I ((numbered_texts _ _).trans ((if_neg no1).trans (if_neg (ne_true_of_eq_false c2))).symm) fewR want
/-! what it gives for one dash -/
theorem occR_full (s sub : Str) : ∀ (l : List Nat) (st : Array Nat × Nat), ¬ st.fst.size < 1 → (forIn l st (StrLaws.occRBody s sub 1)).run = st
  | [], st, h => rfl
  | a :: l, st, h => by
    rw [List.forIn_cons]
    unfold StrLaws.occRBody
    rw [if_neg (fun z => h z.1.1)]
    exact occR_full s sub l st h
theorem occR_one (s sub : Str) (hs : sub.length = 1) {j : Nat} (hj : j ≤ s.length) (at_ : j < s.length ∧ Builtin.Str.subAt s sub j = true) (no : ∀ i, j < i → i < s.length → Builtin.Str.subAt s sub i = false) :
    ∀ (n k : Nat), s.length - k - j + 1 ≤ n → s.length - k ≥ j → k ≤ s.length → (forIn (List.range' k n) ((#[], s.length) : Array Nat × Nat) (StrLaws.occRBody s sub 1)).run = (#[j], j)
  | 0, k, h, h2, h3 => by omega
  | n + 1, k, h, h2, h3 => by
    rw [List.range'_succ, List.forIn_cons]
    unfold StrLaws.occRBody
    by_cases e : s.length - k = j
    · rw [e, if_pos ⟨⟨by show 0 < 1; decide, by show j + sub.length ≤ s.length; omega⟩, at_.2⟩]
      exact occR_full s sub _ _ (by simp)
    · rw [if_neg]
      · exact occR_one s sub hs hj at_ no n (k + 1) (by omega) (by omega) (by omega)
      · rintro ⟨⟨_, q⟩, z⟩
        rw [no _ (by omega) (by omega)] at z
        cases z

/-! ## IV: range, enumerate, zip; comprehensions; locks -/
section
variable {K : PySem.W.Frag} {ι : List Addr} {H : Hp} {M : DM}
theorem itR_range {lo : Int} {n : Nat} : ItR K ι H ⟨(List.range n).map fun (i : Nat) => DV.int (lo + (i : Int)), none⟩ (Itr lo n) := fun ι2 H2 M2 A R2 _ i => by
  refine ⟨fun d e => ?_, fun h => (show n ≤ i by simpa using h)⟩
  simp only [List.getElem?_map, Option.map_eq_some_iff] at e
  obtain ⟨j, e, rfl⟩ := e
  have hi : i < n := by simpa using (List.getElem?_eq_some_iff.mp e).1
  have ej : j = i := by rw [List.getElem?_range hi] at e; exact (Option.some.inj e).symm
  subst ej
  refine ⟨hi, fun x H3 hy => ?_⟩
  obtain ⟨rfl, rfl⟩ := hy
  exact ⟨Same.refl _, .int _⟩
theorem zipIdx_at {α : Type} (xs : List α) (i : Nat) : xs.zipIdx[i]? = (xs[i]?).map fun x => (x, i) := by
  rw [List.getElem?_zipIdx]; simp
/-- the guard of a list that is read, temp or numbered -/
def gdOf (M : DM) : RV → Option (Option (Nat × DObj))
  | .lst _ => some none
  | .v (.obj n) => match M[n]? with
    | some (.lst ds) => some (some (n, .lst ds))
    | _ => none
  | _ => none
theorem gd_list (R : Rep K ι H M) {r : RV} {v : V} {ds : List DV} {g : Option (Nat × DObj)} (h : RVR K ι H r v) (e : gdOf M r = some g) (el : asL M r = some ds) : ∃ a xs, v = .ref a ∧ H a = some (.lst xs) ∧ VRs K ι H ds xs ∧
    ∀ ι2 H2 M2, Aft ι H ι2 H2 → Rep K ι2 H2 M2 → okIt ⟨[], g⟩ M2 = true → ∃ xs2, H2 a = some (.lst xs2) ∧ VRs K ι2 H2 ds xs2 := by
  cases h with
  | @lst ds' a xs n gg t =>
    cases el
    exact ⟨a, xs, rfl, gg, t, fun ι2 H2 M2 A R2 _ => ⟨xs, A.fr a n _ gg, t.aft R A⟩⟩
  | dic _ _ _ => cases el
  | v h => cases h with
    | @obj n a hn =>
      simp only [asL] at el
      split at el
      · rename_i ds' hm
        cases el
        simp only [gdOf, hm] at e
        cases e
        obtain ⟨u, gg, xs, rfl, t⟩ := R.at_ _ _ _ hn hm
        refine ⟨a, xs, rfl, gg, t, fun ι2 H2 M2 A R2 ok => ?_⟩
        obtain ⟨u2, g2, xs2, rfl, t2⟩ := R2.at_ n a _ (A.at_ hn) (okIt_some ok)
        exact ⟨xs2, g2, t2⟩
      · cases el
    | scr _ => cases e
    | _ => simp [asL] at el
theorem itR_enum {a : Addr} {ds : List DV} {g : Option (Nat × DObj)} (hk : ∀ ι2 H2 M2, Aft ι H ι2 H2 → Rep K ι2 H2 M2 → okIt ⟨[], g⟩ M2 = true → ∃ xs2, H2 a = some (.lst xs2) ∧ VRs K ι2 H2 ds xs2) :
    ItR K ι H ⟨ds.zipIdx.map fun p => .tup [.int (p.2 : Nat), p.1], g⟩ (Ite K a) := fun ι2 H2 M2 A R2 ok i => by
  obtain ⟨xs, gx, t⟩ := hk ι2 H2 M2 A R2 ok
  refine ⟨fun d e => ?_, fun h => ⟨xs, SqL.of gx, by rw [← t.length]; simpa using h⟩⟩
  simp only [List.getElem?_map, zipIdx_at, Option.map_map, Option.map_eq_some_iff] at e
  obtain ⟨d0, e, rfl⟩ := e
  obtain ⟨v, hv, r⟩ := t.get e
  refine ⟨⟨xs, v, SqL.of gx, hv⟩, fun x H3 hy => ?_⟩
  obtain ⟨T, w, rfl, hT, rfl, hw⟩ := hy
  have := hw xs (SqL.of gx)
  rw [hv] at this; cases this
  have S := Same.new (u := .tup [.int (i : Nat), v]) hT
  exact ⟨S, .tup (SqT.of upd_same) (.cons (.int _) (.cons (r.aft R2 (Aft.same S)) .nil))⟩
end
def ansI (M : DM) : Option ItV → Res ItV
  | some it => .ok it M
  | none => .bad
def rng1 : List DV → Option ItV
  | [.int j] => if -(2 ^ 62) ≤ j ∧ j < 2 ^ 62 then some ⟨(List.range j.toNat).map fun (i : Nat) => DV.int (0 + (i : Int)), none⟩ else none
  | _ => none
def rng2 : List DV → Option ItV
  | [.int i, .int j] => if -(2 ^ 62) ≤ i ∧ i < 2 ^ 62 ∧ -(2 ^ 62) ≤ j ∧ j < 2 ^ 62 then some ⟨(List.range (j - i).toNat).map fun (k : Nat) => DV.int (i + (k : Int)), none⟩ else none
  | _ => none
def mRng (f : List DV → Option ItV) (ms : DA) : DI := fun δ M => (ms δ M).bind fun ds M1 => ansI M1 (f ds)
def enumOf (M : DM) : List RV → Option ItV
  | [r] => match gdOf M r, asL M r with
    | some g, some ds => some ⟨ds.zipIdx.map fun p => .tup [.int (p.2 : Nat), p.1], g⟩
    | _, _ => none
  | _ => none
def mEnum (ms : DR) : DI := fun δ M => (ms δ M).bind fun rs M1 => ansI M1 (enumOf M1 rs)
section
variable {X : Cx} {W : WX} {tg a b e : Expr} {ms : DA} {mr : DR} {p pos tpos : Pos} {elts : List Expr} {kk : Nat}
theorem ii_rng1 (hb : PI X tg (.Call (.Name "range" p) [a] [] pos) (iRng1 (tIa X.K W ms))) : PI X tg (.Call (.Name "range" p) [a] [] pos) (tG X.K W (relI X.K) (mRng rng1 ms)) := pi_of hb fun σ H Rr ⟨ι, δ, M, hs, R, hp⟩ => by
  refine ⟨ι, δ, M, hs, R, (Post.bind early_I hs R hp).imp ?_⟩
  rintro vs H1 ⟨ds, ι1, M1, A1, hs1, R1, hd, h1⟩
  have hd : VRs X.K ι1 H1 ds vs := hd
  have h1 : Post X.K W σ ι1 H1 (relI X.K) (ansI M1 (rng1 ds)) Rr := h1
  unfold rng1 at h1
  split at h1
  · split at h1
    · rename_i hj
      cases hd with | cons r t => cases r; cases t; exact ⟨_, rfl, hj.1, hj.2, Post.ret h1 R1 itR_range⟩
    · exact h1.elim
  · exact h1.elim
theorem ii_rng2 (hb : PI X tg (.Call (.Name "range" p) [a, b] [] pos) (iRng2 (tIa X.K W ms))) : PI X tg (.Call (.Name "range" p) [a, b] [] pos) (tG X.K W (relI X.K) (mRng rng2 ms)) := pi_of hb fun σ H Rr ⟨ι, δ, M, hs, R, hp⟩ => by
  refine ⟨ι, δ, M, hs, R, (Post.bind early_I hs R hp).imp ?_⟩
  rintro vs H1 ⟨ds, ι1, M1, A1, hs1, R1, hd, h1⟩
  have hd : VRs X.K ι1 H1 ds vs := hd
  have h1 : Post X.K W σ ι1 H1 (relI X.K) (ansI M1 (rng2 ds)) Rr := h1
  unfold rng2 at h1
  split at h1
  · split at h1
    · rename_i hj
      cases hd with | cons r t => cases r; cases t with | cons r2 t2 => cases r2; cases t2; exact ⟨_, _, rfl, hj, Post.ret h1 R1 itR_range⟩
    · exact h1.elim
  · exact h1.elim
theorem ii_enum (hb : PI X (.Tuple elts kk tpos) (.Call (.Name "enumerate" p) [e] [] pos) (iEnum X.K (tIr X.K W mr))) : PI X (.Tuple elts kk tpos) (.Call (.Name "enumerate" p) [e] [] pos) (tG X.K W (relI X.K) (mEnum mr)) := pi_of hb fun σ H Rr ⟨ι, δ, M, hs, R, hp⟩ => by
  refine ⟨ι, δ, M, hs, R, (Post.bind early_I hs R hp).imp ?_⟩
  rintro vs H1 ⟨rs, ι1, M1, A1, hs1, R1, hd, h1⟩
  have hd : RVRs X.K ι1 H1 rs vs := hd
  have h1 : Post X.K W σ ι1 H1 (relI X.K) (ansI M1 (enumOf M1 rs)) Rr := h1
  unfold enumOf at h1
  split at h1
  · split at h1
    · rename_i r g ds eg el
      cases hd with | cons rr t => cases t; obtain ⟨a, xs, rfl, ga, _, hk⟩ := gd_list R1 rr eg el; exact ⟨a, xs, rfl, SqL.of ga, Post.ret h1 R1 (itR_enum hk)⟩
    · exact h1.elim
  · exact h1.elim
end
/-! comprehensions -/
def okOr {α β : Type} (r : Res α) (f : α → DM → Res β) : Res β := match r with
  | .ok a M => f a M
  | _ => .bad
def wipeD (δ : DS) : List Nat → DS
  | [] => δ
  | v :: vs => (wipeD δ vs).set v none
theorem SR.setN {K : PySem.W.Frag} {ι : List Addr} {H : Hp} : ∀ {δ : DS} {σ : L2.St} (i : Nat), SR K ι H δ σ → SR K ι H (δ.set i none) (σ.set i none)
  | [], [], _, .nil => .nil
  | _ :: _, _ :: _, 0, .cons _ t => .cons (fun x e => by cases e) t
  | _ :: _, _ :: _, i + 1, .cons h t => .cons h (SR.setN i t)
theorem SR.wipe {K : PySem.W.Frag} {ι : List Addr} {H : Hp} {δ : DS} {σ : L2.St} (h : SR K ι H δ σ) : ∀ vs : List Nat, SR K ι H (wipeD δ vs) (L2.wipe σ vs)
  | [] => h
  | v :: vs => (SR.wipe h vs).setN v
theorem wipe_wipe {σ : L2.St} : ∀ vs : List Nat, L2.wipe (L2.wipe σ vs) vs = L2.wipe σ vs := fun vs => by
  have : ∀ (ws us : List Nat), (∀ w ∈ ws, w ∈ us) → L2.wipe (L2.wipe σ us) ws = L2.wipe σ us := fun ws us => by
    induction ws with
    | nil => intro _; rfl
    | cons w ws ih =>
      intro h
      show (L2.wipe (L2.wipe σ us) ws).set w none = _
      rw [ih fun x hx => h x (List.mem_cons_of_mem _ hx)]
      have hw := h w (List.mem_cons_self ..)
      clear ih h
      induction us with
      | nil => exact absurd hw (by simp)
      | cons u us ih =>
        show ((L2.wipe σ us).set u none).set w none = (L2.wipe σ us).set u none
        by_cases e : u = w
        · subst e; rw [List.set_set]
        · rw [List.set_comm _ _ e, ih (by rcases List.mem_cons.mp hw with z | z; exact absurd z.symm e; exact z)]
  exact this vs vs fun _ h => h
def loopL (it : ItV) (t : Tg) (mt : DT) (me : DS → DM → Res DV) (own : List Nat) (δ0 : DS) : List DV → List DV → DM → Res (List DV)
  | [], acc, M => if okIt it M = true then .ok acc M else .bad
  | d :: ds, acc, M => if okIt it M = true then match asgT M t d with
    | some ps => if (ps.all fun p => decide (p.1 ∈ own)) = true then okOr (mt (setsD δ0 ps) M) fun b M2 => if b = true then okOr (me (setsD δ0 ps) M2) fun v M3 => if acc.length < LIM then loopL it t mt me own δ0 ds (acc ++ [v]) M3 else .bad
      else loopL it t mt me own δ0 ds acc M2
      else .bad
    | none => .bad
    else .bad
def mLc (mi : DI) (t : Tg) (mt : DT) (me : DS → DM → Res DV) (own : List Nat) : DE := fun δ M => (mi δ M).bind fun it M1 => (loopL it t mt me own (wipeD δ own) it.xs [] M1).bind fun acc M2 => .ok (.lst acc) M2
def loopD (it : ItV) (t : Tg) (mt : DT) (mk me : DS → DM → Res DV) (own : List Nat) (δ0 : DS) : List DV → List (Key × DV) → DM → Res (List (Key × DV))
  | [], acc, M => if okIt it M = true then .ok acc M else .bad
  | d :: ds, acc, M => if okIt it M = true then match asgT M t d with
    | some ps => if (ps.all fun p => decide (p.1 ∈ own)) = true then okOr (mt (setsD δ0 ps) M) fun b M2 => if b = true then okOr (mk (setsD δ0 ps) M2) fun k M3 => okOr (me (setsD δ0 ps) M3) fun v M4 => match keyOf (.v k) with
        | some key => if acc.length < LIM then loopD it t mt mk me own δ0 ds (putD acc key v) M4 else .bad
        | none => .bad
      else loopD it t mt mk me own δ0 ds acc M2
      else .bad
    | none => .bad
    else .bad
def mDc (mi : DI) (t : Tg) (mt : DT) (mk me : DS → DM → Res DV) (own : List Nat) : DE := fun δ M => (mi δ M).bind fun it M1 => (loopD it t mt mk me own (wipeD δ own) it.xs [] M1).bind fun acc M2 => .ok (.dic acc) M2
abbrev W0 : WX := fun _ _ _ _ => False
theorem Post.of_ok {α β γ : Type} {K : PySem.W.Frag} {σ : L2.St} {ι : List Addr} {H : Hp} {rel : RelT α β} {r : Res α} {f : α → DM → Res γ} {Q : β → Hp → Prop} (hb : okOr r f ≠ .bad)
    (k : ∀ a M', r = .ok a M' → ∀ ι' b H', Aft ι H ι' H' → Rep K ι' H' M' → rel H ι' H' a b → Q b H') : Post K W0 σ ι H rel r Q := by
  cases r with
  | ok a M' => exact k a M' rfl
  | exc e M' => exact absurd rfl hb
  | bad => exact absurd rfl hb
theorem bind_bad {α β : Type} {K : PySem.W.Frag} {W : WX} {σ : L2.St} {ι : List Addr} {H : Hp} {rel : RelT RV V} {r : Res α} {f : α → DM → Res RV} {Q : VK} (h : Post K W σ ι H rel (r.bind f) Q) : r ≠ .bad := fun e => by rw [e] at h; exact h
section
variable {K : PySem.W.Frag} {ι : List Addr} {H : Hp} {M : DM}
/-- a list or a dict that has no number may change -/
theorem Rep.off (R : Rep K ι H M) {D : Addr} {u u' : HO} (hD : D ∉ ι) (g : H D = some u) (ns : ¬ Stays u) (nt : ∀ xs, u ≠ .tup xs ∧ ∀ o, u ≠ .frz o (.tup xs)) (n1 : ∀ ps, u ≠ .tbl ps := by intro _ z; cases z) (n2 : ∀ f, u ≠ .ext f := by intro _ z; cases z) : Rep K ι (upd H D u') M ∧ ∀ a xs, SqT K H a xs → SqT K (upd H D u') a xs := by
  have ht : ∀ a xs, SqT K H a xs → SqT K (upd H D u') a xs := fun a xs h => by
    rcases h with (h | ⟨o, h⟩) | h
    · exact .inl (.inl (by rw [upd_ne (fun (z : a = D) => (nt xs).1 (by rw [z, g] at h; exact Option.some.inj h))]; exact h))
    · exact .inl (.inr ⟨o, by rw [upd_ne (fun (z : a = D) => (nt xs).2 o (by rw [z, g] at h; exact Option.some.inj h))]; exact h⟩)
    · exact .inr h
  refine ⟨⟨R.len, R.nd, R.fl, fun n a o h1 h2 => ?_, tabs_upd R.tb g n1 n2, R.xgo ⟨[], by simp⟩ fun b _ o e z => by rw [upd_ne (fun (y : b = D) => ns (by rw [y, g] at e; rw [Option.some.inj e]; exact z))]; exact e⟩, ht⟩
  obtain ⟨v, e, q⟩ := R.at_ n a o h1 h2
  exact ⟨v, by rw [upd_ne (fun (z : a = D) => hD (by rw [← z]; exact List.mem_of_getElem? h1))]; exact e, q.go (fun _ _ z => z) ht⟩
theorem Aft.off {ι' : List Addr} {H' : Hp} (A : Aft ι H ι' H') {D : Addr} {u : HO} (h0 : Free H D) (nt : ∀ ps, u ≠ .tbl ps := by intro _ z; cases z) : Aft ι H ι' (upd H' D u) :=
  have ne : ∀ {b o}, H b = some o → (∀ ps, o ≠ .tbl ps) → b ≠ D := fun {b o} e nt z => free_no (by rw [z]; exact h0) e nt
  ⟨A.ext, fun b hb o e nt => by rw [upd_ne (ne e nt)]; exact A.fr0 b hb o e nt, fun b h => A.th b (free_upd nt h), fun b o x e => by rw [upd_ne (ne e fun _ z => by cases z)]; exact A.fz b o x e⟩
end
section
variable {X : Cx} {W : WX} {mi : DI} {t : Tg} {mt : DT} {mk me : DS → DM → Res DV} {own : List Nat}
theorem tI_lc {K : PySem.W.Frag} {σ : L2.St} {H : Hp} {Q : VK} : tI K W (mLc mi t mt me own) σ H Q → tLc (tG K W (relI K) mi) (tGn K t) (tIt K W0 mt) (tIv K W0 me) own σ H Q := fun ⟨ι, δ, M, hs, R, h⟩ => by
  refine ⟨ι, δ, M, hs, R, (Post.bind early_E hs R h).imp ?_⟩
  rintro J H1 ⟨it, ι1, M1, A1, hs1, R1, hit, h1⟩
  have hit : ItR K ι1 H1 it J := hit
  intro D hD
  have S0 := Same.new (u := .lst []) hD
  have D1 : D ∉ ι1 := fun m => R1.there m hD
  refine ⟨fun i m Hc => m = it.xs.length - i ∧ i ≤ it.xs.length ∧ ∃ ι' M' acc vs, Aft ι1 H1 ι' Hc ∧ Rep K ι' Hc M' ∧ Hc D = some (.lst vs) ∧ VRs K ι' Hc acc vs ∧ D ∉ ι' ∧ Post K W σ ι1 H1 (relE K) ((loopL it t mt me own (wipeD δ own) (it.xs.drop i) acc M').bind fun acc M2 => .ok (.lst acc) M2) Q,
    ⟨_, rfl, Nat.zero_le _, ι1, M1, [], [], Aft.same S0, R1.same S0, upd_same, .nil, D1, h1⟩, ?_⟩
  rintro i m H2 ⟨rfl, le, ι2, M2, acc, vs, A2, R2, gD, tv, D2, h2⟩
  by_cases hi : i < it.xs.length
  · right
    have e0 : it.xs.drop i = it.xs[i] :: it.xs.drop (i + 1) := List.drop_eq_getElem_cons hi
    rw [e0] at h2
    simp only [loopL] at h2
    split at h2
    · rename_i hok
      obtain ⟨go, yl⟩ := (hit ι2 H2 M2 A2 R2 hok i).1 it.xs[i] (List.getElem?_eq_getElem hi)
      refine ⟨go, fun Hc => ∃ ι' M' acc vs, Aft ι1 H1 ι' Hc ∧ Rep K ι' Hc M' ∧ Hc D = some (.lst vs) ∧ VRs K ι' Hc acc vs ∧ D ∉ ι' ∧ Post K W σ ι1 H1 (relE K) ((loopL it t mt me own (wipeD δ own) (it.xs.drop (i + 1)) acc M').bind fun acc M2 => .ok (.lst acc) M2) Q, fun H' q => ⟨_, by omega, rfl, by omega, q⟩, fun x H3 hy => ?_⟩
      obtain ⟨S, rx⟩ := yl x H3 hy
      have A3 : Aft ι2 H2 ι2 H3 := Aft.same S
      have R3 := R2.same S
      have A13 := A2.trans R2 A3
      have tv3 := tv.aft R2 A3
      have gD3 := S _ _ gD
      split at h2
      · rename_i ps ea
        split at h2
        · rename_i hall
          refine ⟨ι2, M2, it.xs[i], ps, R3, rx, ea, fun qs hq => ⟨?_, ?_⟩⟩
          · rw [wipe_sets, wipe_wipe]
            intro q hq'
            have : q.1 ∈ ps.map (·.1) := by rw [FR.fst hq]; exact List.mem_map_of_mem hq'
            obtain ⟨p, hp, e⟩ := List.mem_map.mp this
            rw [← e]
            exact of_decide_eq_true (List.all_eq_true.mp hall p hp)
          · have hs3 : SR K ι2 H3 (setsD (wipeD δ own) ps) (setsV (L2.wipe σ own) qs) := SR.sets hq ((((hs1.aft R1 A2).aft R2 A3)).wipe own)
            refine ⟨ι2, _, M2, hs3, R3, Post.of_ok (bind_bad (β := RV) h2) fun b M4 eb ι4 b' H4 A4 R4 hb => ?_⟩
            have hb : b = b' := hb
            subst hb
            rw [eb] at h2
            simp only [okOr] at h2
            have gD4 := A4.fr D D2 _ gD3
            have D4 : D ∉ ι4 := fun m => by
              obtain ⟨new, rfl, hn⟩ := A4.ext
              rcases List.mem_append.mp m with z | z
              · exact D2 z
              · exact free_no (hn D z) gD3
            by_cases kb : b = true
            · rw [if_pos kb] at h2 ⊢
              refine ⟨ι4, _, M4, hs3.aft R3 A4, R4, Post.of_ok (bind_bad (β := RV) h2) fun v M5 ev ι5 v' H5 A5 R5 hv => ?_⟩
              have hv : VR K ι5 H5 v v' := hv
              rw [ev] at h2
              simp only [okOr] at h2
              have gD5 := A5.fr D D4 _ gD4
              have D5 : D ∉ ι5 := fun m => by
                obtain ⟨new, rfl, hn⟩ := A5.ext
                rcases List.mem_append.mp m with z | z
                · exact D4 z
                · exact free_no (hn D z) gD4
              have tv5 := (tv3.aft R3 A4).aft R4 A5
              split at h2
              · rename_i hl
                refine ⟨vs, gD5, lim_lt (by rw [← tv5.length]; exact hl), ι5, M5, acc ++ [v], vs ++ [v'], ?_, ?_, upd_same, ?_, D5, h2⟩
                · exact Aft.off ((A13.trans R3 A4).trans R4 A5) (.inl hD)
                · exact (R5.off (u' := .lst (vs ++ [v'])) D5 gD5 (fun z => z.2.1 _ rfl) fun xs => ⟨(fun z => by cases z), (fun _ z => by cases z)⟩).1
                · exact (tv5.append (.cons hv .nil)).go (fun _ _ z => z) (R5.off (u' := .lst (vs ++ [v'])) D5 gD5 (fun z => z.2.1 _ rfl) fun xs => ⟨(fun z => by cases z), (fun _ z => by cases z)⟩).2
              · exact h2.elim
            · rw [if_neg kb] at h2 ⊢
              exact ⟨ι4, M4, acc, vs, A13.trans R3 A4, R4, gD4, tv3.aft R3 A4, D4, h2⟩
        · exact h2.elim
      · exact h2.elim
    · exact h2.elim
  · left
    have e1 : i = it.xs.length := by omega
    subst e1
    rw [List.drop_length] at h2
    simp only [loopL] at h2
    split at h2
    · rename_i hok
      exact ⟨(hit ι2 H2 M2 A2 R2 hok _).2 (Nat.le_refl _), h2 ι2 _ H2 A2 R2 ⟨.lst D2 gD tv, fun a e => by cases e; exact .inl hD⟩⟩
    · exact h2.elim
theorem tI_dc {K : PySem.W.Frag} {σ : L2.St} {H : Hp} {Q : VK} : tI K W (mDc mi t mt mk me own) σ H Q → tDc (tG K W (relI K) mi) (tGn K t) (tIt K W0 mt) (tIv K W0 mk) (tIv K W0 me) own σ H Q := fun ⟨ι, δ, M, hs, R, h⟩ => by
  refine ⟨ι, δ, M, hs, R, (Post.bind early_E hs R h).imp ?_⟩
  rintro J H1 ⟨it, ι1, M1, A1, hs1, R1, hit, h1⟩
  have hit : ItR K ι1 H1 it J := hit
  intro D hD
  have S0 := Same.new (u := .dK []) hD
  have D1 : D ∉ ι1 := fun m => R1.there m hD
  refine ⟨fun i m Hc => m = it.xs.length - i ∧ i ≤ it.xs.length ∧ ∃ ι' M' acc vs, Aft ι1 H1 ι' Hc ∧ Rep K ι' Hc M' ∧ Hc D = some (.dK vs) ∧ FR K ι' Hc acc vs ∧ D ∉ ι' ∧ Post K W σ ι1 H1 (relE K) ((loopD it t mt mk me own (wipeD δ own) (it.xs.drop i) acc M').bind fun acc M2 => .ok (.dic acc) M2) Q,
    ⟨_, rfl, Nat.zero_le _, ι1, M1, [], [], Aft.same S0, R1.same S0, upd_same, .nil, D1, h1⟩, ?_⟩
  rintro i m H2 ⟨rfl, le, ι2, M2, acc, vs, A2, R2, gD, tv, D2, h2⟩
  by_cases hi : i < it.xs.length
  · right
    have e0 : it.xs.drop i = it.xs[i] :: it.xs.drop (i + 1) := List.drop_eq_getElem_cons hi
    rw [e0] at h2
    simp only [loopD] at h2
    split at h2
    · rename_i hok
      obtain ⟨go, yl⟩ := (hit ι2 H2 M2 A2 R2 hok i).1 it.xs[i] (List.getElem?_eq_getElem hi)
      refine ⟨go, fun Hc => ∃ ι' M' acc vs, Aft ι1 H1 ι' Hc ∧ Rep K ι' Hc M' ∧ Hc D = some (.dK vs) ∧ FR K ι' Hc acc vs ∧ D ∉ ι' ∧ Post K W σ ι1 H1 (relE K) ((loopD it t mt mk me own (wipeD δ own) (it.xs.drop (i + 1)) acc M').bind fun acc M2 => .ok (.dic acc) M2) Q, fun H' q => ⟨_, by omega, rfl, by omega, q⟩, fun x H3 hy => ?_⟩
      obtain ⟨S, rx⟩ := yl x H3 hy
      have A3 : Aft ι2 H2 ι2 H3 := Aft.same S
      have R3 := R2.same S
      have A13 := A2.trans R2 A3
      have tv3 := FR.aft R2 A3 tv
      have gD3 := S _ _ gD
      have out : ∀ {ι' ι'' : List Addr} {H' H'' : Hp}, Aft ι' H' ι'' H'' → D ∉ ι' → H' D = some (.dK vs) → D ∉ ι'' := fun A d g m => by
        obtain ⟨new, rfl, hn⟩ := A.ext
        rcases List.mem_append.mp m with z | z
        · exact d z
        · exact free_no (hn D z) g
      split at h2
      · rename_i ps ea
        split at h2
        · rename_i hall
          refine ⟨ι2, M2, it.xs[i], ps, R3, rx, ea, fun qs hq => ⟨?_, ?_⟩⟩
          · rw [wipe_sets, wipe_wipe]
            intro q hq'
            have : q.1 ∈ ps.map (·.1) := by rw [FR.fst hq]; exact List.mem_map_of_mem hq'
            obtain ⟨p, hp, e⟩ := List.mem_map.mp this
            rw [← e]
            exact of_decide_eq_true (List.all_eq_true.mp hall p hp)
          · have hs3 : SR K ι2 H3 (setsD (wipeD δ own) ps) (setsV (L2.wipe σ own) qs) := SR.sets hq ((((hs1.aft R1 A2).aft R2 A3)).wipe own)
            refine ⟨ι2, _, M2, hs3, R3, Post.of_ok (bind_bad (β := RV) h2) fun b M4 eb ι4 b' H4 A4 R4 hb => ?_⟩
            have hb : b = b' := hb
            subst hb
            rw [eb] at h2
            simp only [okOr] at h2
            have gD4 := A4.fr D D2 _ gD3
            have D4 := out A4 D2 gD3
            by_cases kb : b = true
            · rw [if_pos kb] at h2 ⊢
              refine ⟨ι4, _, M4, hs3.aft R3 A4, R4, Post.of_ok (bind_bad (β := RV) h2) fun k M5 ek ι5 k' H5 A5 R5 hk => ?_⟩
              have hk : VR K ι5 H5 k k' := hk
              rw [ek] at h2
              simp only [okOr] at h2
              have gD5 := A5.fr D D4 _ gD4
              have D5 := out A5 D4 gD4
              refine ⟨ι5, _, M5, (hs3.aft R3 A4).aft R4 A5, R5, Post.of_ok (bind_bad (β := RV) h2) fun v M6 ev ι6 v' H6 A6 R6 hv => ?_⟩
              have hv : VR K ι6 H6 v v' := hv
              rw [ev] at h2
              simp only [okOr] at h2
              have gD6 := A6.fr D D5 _ gD5
              have D6 := out A6 D5 gD5
              have tv6 := FR.aft R5 A6 (FR.aft R4 A5 (FR.aft R3 A4 tv3))
              split at h2
              · rename_i key ekey
                split at h2
                · rename_i hl
                  have O := R6.off (u' := .dK (putK vs key v')) D6 gD6 (fun z => z.2.2 _ rfl) fun xs => ⟨(fun z => by cases z), (fun _ z => by cases z)⟩
                  refine ⟨vs, key, keyOf_ok (.v hk) ekey, gD6, lim_lt (by rw [← FR.length tv6]; exact hl), ι6, M6, putD acc key v, putK vs key v', ?_, O.1, upd_same, ?_, D6, h2⟩
                  · exact Aft.off (((A13.trans R3 A4).trans R4 A5).trans R5 A6) (.inl hD)
                  · exact FR.go (fun _ _ z => z) O.2 (FR.put tv6 hv)
                · exact h2.elim
              · exact h2.elim
            · rw [if_neg kb] at h2 ⊢
              exact ⟨ι4, M4, acc, vs, A13.trans R3 A4, R4, gD4, FR.aft R3 A4 tv3, D4, h2⟩
        · exact h2.elim
      · exact h2.elim
    · exact h2.elim
  · left
    have e1 : i = it.xs.length := by omega
    subst e1
    rw [List.drop_length] at h2
    simp only [loopD] at h2
    split at h2
    · rename_i hok
      exact ⟨(hit ι2 H2 M2 A2 R2 hok _).2 (Nat.le_refl _), h2 ι2 _ H2 A2 R2 ⟨.dic D2 gD tv, fun a e => by cases e; exact .inl hD⟩⟩
    · exact h2.elim
end

end
end Lk
end

section
set_option Elab.async false
set_option linter.all false
set_option maxRecDepth 100000
set_option maxHeartbeats 4000000
namespace Lk
open PySem PySem.Spec PyProof.Rows L2
noncomputable section
variable [Tbl] [Lnk]
/-! ## IV: locks; built-in functions -/
def unlockS (n : Nat) (kvs : List (Key × DV)) (r : SOut) : SOut := match r with
  | .nx δ M => if M[n]? = some (.dic true kvs) then .nx δ (M.set n (.dic false kvs)) else .bad
  | .ret r M => if M[n]? = some (.dic true kvs) then .ret r (M.set n (.dic false kvs)) else .bad
  | .brk δ M => if M[n]? = some (.dic true kvs) then .brk δ (M.set n (.dic false kvs)) else .bad
  | .ct δ M => if M[n]? = some (.dic true kvs) then .ct δ (M.set n (.dic false kvs)) else .bad
  | r => r
/-- a statement that walks a dict: the dict is not written meanwhile -/
def mLockS (md : DS → DM → Res DV) (inner : DSt) : DSt := fun δ M => match md δ M with
  | .ok d _ => match dicAt M d with
    | some (n, kvs) => unlockS n kvs (inner δ (M.set n (.dic true kvs)))
    | none => .bad
  | _ => .bad
def mLockE (md : DS → DM → Res DV) (inner : DE) : DE := fun δ M => match md δ M with
  | .ok d _ => match dicAt M d with
    | some (n, kvs) => (inner δ (M.set n (.dic true kvs))).bind fun r M1 => if M1[n]? = some (.dic true kvs) then .ok r (M1.set n (.dic false kvs)) else .bad
    | none => .bad
  | _ => .bad
section
variable {K : PySem.W.Frag} {W : WX} {ι ι' : List Addr} {H H' : Hp} {M : DM}
theorem dicAt_n {d : DV} {n : Nat} {kvs : List (Key × DV)} (e : dicAt M d = some (n, kvs)) : M[n]? = some (.dic false kvs) := by
  cases d with
  | obj k =>
    simp only [dicAt] at e
    split at e
    · rename_i hm; cases e; exact hm
    · cases e
  | _ => cases e
/-- the dict at n is locked: what that leaves; and back -/
theorem lock_at (R : Rep K ι H M) {n : Nat} {kvs : List (Key × DV)} (hm : M[n]? = some (.dic false kvs)) : ∃ a es, ι[n]? = some a ∧ H a = some (.dK es) ∧ ∀ od, Aft ι H ι (upd H a (.frz od (.dK es))) ∧ Rep K ι (upd H a (.frz od (.dK es))) (M.set n (.dic true kvs)) ∧
    ∀ ι' H' M', Aft ι (upd H a (.frz od (.dK es))) ι' H' → Rep K ι' H' M' → M'[n]? = some (.dic true kvs) → H' a = some (.frz od (.dK es)) ∧ Aft ι H ι' (upd H' a (.dK es)) ∧ Rep K ι' (upd H' a (.dK es)) (M'.set n (.dic false kvs)) ∧ (∀ b xs, SqT K H' b xs → SqT K (upd H' a (.dK es)) b xs) ∧ a ∈ ι' := by
  have lt : n < ι.length := by rw [R.len]; exact DM.get_lt hm
  have hn : ι[n]? = some ι[n] := List.getElem?_eq_getElem lt
  obtain ⟨u, g, es, rfl, t⟩ := R.at_ _ _ _ hn hm
  refine ⟨ι[n], es, hn, g, fun od => ?_⟩
  have P := Aft.put (H := H) (u := .frz od (.dK es)) (List.mem_of_getElem? hn) (nz_of g fun _ _ z => by cases z)
  refine ⟨P, R.put (o := .dic true kvs) hn ⟨od, es, rfl, t⟩, fun ι' H' M' A R' ok => ?_⟩
  have g' := A.fz _ _ _ (show upd H ι[n] (.frz od (.dK es)) ι[n] = some (.frz od (.dK es)) from upd_same)
  have hn' := A.at_ hn
  obtain ⟨u2, g2, o2, es2, rfl, t2⟩ := R'.at_ _ _ _ hn' ok
  rw [g'] at g2
  cases g2
  refine ⟨g', ⟨A.ext.elim fun new h => ⟨new, h.1, fun b hb => ?_⟩, fun b hb o e nt => ?_, fun b h => free_upd (fun _ z => by cases z) (A.th b (free_upd (fun _ z => by cases z) h)), fun b o x e => ?_⟩, R'.put (o := .dic false kvs) hn' ⟨es, rfl, t2⟩, fun b xs q => sqT_put R' (List.mem_of_getElem? hn') q, List.mem_of_getElem? hn'⟩
  · exact free_upd (fun _ z => by cases z) (h.2 b hb)
  · have ne : b ≠ ι[n] := fun z => hb (by rw [z]; exact List.mem_of_getElem? hn)
    rw [upd_ne ne]
    exact A.fr0 b hb o (by rw [upd_ne ne]; exact e) nt
  · have ne : b ≠ ι[n] := fun z => by rw [z, g] at e; cases e
    rw [upd_ne ne]
    exact A.fz b o x (by rw [upd_ne ne]; exact e)
theorem SR.goT {δ : DS} {σ : L2.St} (ht : ∀ a xs, SqT K H a xs → SqT K H' a xs) (h : SR K ι H δ σ) : SR K ι H' δ σ := by
  induction h with
  | nil => exact .nil
  | cons h _ t => exact .cons (fun x e => let ⟨y, e1, r⟩ := h x e; ⟨y, e1, r.go (fun _ _ z => z) ht⟩) t
end
section
variable {X : Cx} {W : WX} {st : Stmt} {e : Expr} {md : DS → DM → Res DV} {inner : DSt} {me : DE}
theorem is_lock (h : PS X st (tIs X.K W inner)) : PS X st (tIs X.K W (mLockS md inner)) := ps_of (ps_lock h) fun D σ H ⟨ι, δ, M, hs, R, h⟩ => by
  unfold mLockS at h
  split at h
  · split at h
    · rename_i n kvs ed
      obtain ⟨a, es, hn, g, lk⟩ := lock_at R (dicAt_n ed)
      refine ⟨a, .dK es, g, trivial, fun od => ?_⟩
      obtain ⟨P, RL, back⟩ := lk od
      refine ⟨ι, δ, M.set n (.dic true kvs), hs.aft R P, RL, ?_⟩
      cases ei : inner δ (M.set n (.dic true kvs)) with
      | nx δ1 M1 =>
        rw [ei] at h
        simp only [unlockS] at h
        split at h
        · rename_i ok
          intro ι' σ' H' A R' hs'
          obtain ⟨b1, b2, b3, b4, _⟩ := back ι' H' M1 A R' ok
          exact ⟨b1, h ι' σ' _ b2 b3 (hs'.goT b4)⟩
        · exact h.elim
      | ret r M1 =>
        rw [ei] at h
        simp only [unlockS] at h
        split at h
        · rename_i ok
          intro ι' v H' A R' rr f
          obtain ⟨b1, b2, b3, b4, ai⟩ := back ι' H' M1 A R' ok
          refine ⟨b1, h ι' v _ b2 b3 ?_ (f.back P RL)⟩
          cases rr with
          | v x => exact .v (x.go (fun _ _ z => z) b4)
          | lst nn gg t => exact .lst nn (by rw [upd_ne (fun z => nn (by rw [z]; exact ai))]; exact gg) (t.go (fun _ _ z => z) b4)
          | dic nn gg t => exact .dic nn (by rw [upd_ne (fun z => nn (by rw [z]; exact ai))]; exact gg) (FR.go (fun _ _ z => z) b4 t)
        · exact h.elim
      | brk δ1 M1 =>
        rw [ei] at h
        simp only [unlockS] at h
        split at h
        · rename_i ok
          intro ι' σ' H' A R' hs'
          obtain ⟨b1, b2, b3, b4, _⟩ := back ι' H' M1 A R' ok
          exact ⟨b1, h ι' σ' _ b2 b3 (hs'.goT b4)⟩
        · exact h.elim
      | ct δ1 M1 =>
        rw [ei] at h
        simp only [unlockS] at h
        split at h
        · rename_i ok
          intro ι' σ' H' A R' hs'
          obtain ⟨b1, b2, b3, b4, _⟩ := back ι' H' M1 A R' ok
          exact ⟨b1, h ι' σ' _ b2 b3 (hs'.goT b4)⟩
        · exact h.elim
      | exc x δ1 M1 =>
        rw [ei] at h
        exact fun ι' c d σ' H' A R' hs' xr => h ι' c d σ' H' (P.trans RL A) R' hs' xr
      | bad => rw [ei] at h; exact h.elim
    · exact h.elim
  · exact h.elim
theorem ie_lock (h : PE X e (tI X.K W me)) : PE X e (tI X.K W (mLockE md me)) := pe_of (pe_lock h) fun σ H Q ⟨ι, δ, M, hs, R, h⟩ => by
  unfold mLockE at h
  split at h
  · split at h
    · rename_i n kvs ed
      obtain ⟨a, es, hn, g, lk⟩ := lock_at R (dicAt_n ed)
      refine ⟨a, .dK es, g, trivial, fun od => ?_⟩
      obtain ⟨P, RL, back⟩ := lk od
      refine ⟨ι, δ, M.set n (.dic true kvs), hs.aft R P, RL, ?_⟩
      cases ei : me δ (M.set n (.dic true kvs)) with
      | ok r M1 =>
        rw [ei] at h
        simp only [Res.bind] at h
        split at h
        · rename_i ok
          intro ι' v H' A R' rr
          obtain ⟨b1, b2, b3, b4, ai⟩ := back ι' H' M1 A R' ok
          refine ⟨b1, h ι' v _ b2 b3 ⟨?_, rr.2.back P RL⟩⟩
          have rr1 := rr.1
          cases rr1 with
          | v x => exact .v (x.go (fun _ _ z => z) b4)
          | lst nn gg t => exact .lst nn (by rw [upd_ne (fun z => nn (by rw [z]; exact ai))]; exact gg) (t.go (fun _ _ z => z) b4)
          | dic nn gg t => exact .dic nn (by rw [upd_ne (fun z => nn (by rw [z]; exact ai))]; exact gg) (FR.go (fun _ _ z => z) b4 t)
        · exact h.elim
      | exc x M1 => rw [ei] at h; exact fun ι' c d H' A R' xr => h ι' c d H' (P.trans RL A) R' xr
      | bad => rw [ei] at h; exact h.elim
    · exact h.elim
  · exact h.elim
end
/-! ### built-in functions that change nothing -/
def rIs (K : PySem.W.Frag) (g : DM → List RV → Option RV) : List V → Hp → VK → Prop := fun xs H Q => ∃ ι M rs r, Rep K ι H M ∧ RVRs K ι H rs xs ∧ g M rs = some r ∧ ∀ v H', Same H H' → RVR K ι H' r v → Fresh H r v → Q v H'
def mBlt (g : DM → List RV → Option RV) (ms : DR) : DE := fun δ M => (ms δ M).bind fun rs M1 => ansR M1 (g M1 rs)
theorem tI_blt {K : PySem.W.Frag} {W : WX} {g : DM → List RV → Option RV} {ms : DR} {σ : L2.St} {H : Hp} {Q : VK} : tI K W (mBlt g ms) σ H Q → tCB (rIs K g) (tIr K W ms) σ H Q := fun ⟨ι, δ, M, hs, R, h⟩ => by
  refine ⟨ι, δ, M, hs, R, (Post.bind early_E hs R h).imp ?_⟩
  rintro v H1 ⟨rs, ι1, M1, A1, hs1, R1, hx, h1⟩
  have h1 : Post K W σ ι1 H1 (relE K) (ansR M1 (g M1 rs)) Q := h1
  cases e : g M1 rs with
  | none => rw [e] at h1; exact h1.elim
  | some r => rw [e] at h1; exact ⟨ι1, M1, rs, r, R1, hx, e, fun v H' S r' f => Post.same h1 R1 S ⟨r', f⟩⟩
def bLen (M : DM) : List RV → Option RV
  | [.v (.str s)] => if s.length ≤ LIM then some (.v (.int s.length)) else none
  | [.dic kvs] => some (.v (.int kvs.length))
  | [r] => match asS M r with
    | some ds => some (.v (.int ds.length))
    | none => match r with
      | .v d => (dicAt M d).map fun p => .v (.int p.2.length)
      | _ => none
  | _ => none
/-- the type's name -/
def tyOf (M : DM) : RV → Option String
  | .v .non => some "NoneType"
  | .v (.bl _) => some "bool"
  | .v (.int _) => some "int"
  | .v (.str _) => some "str"
  | .v (.tup _) => some "tuple"
  | .lst _ => some "list"
  | .dic _ => some "dict"
  | .v (.obj n) => match M[n]? with
    | some (.lst _) => some "list"
    | some (.dic _ _) => some "dict"
    | _ => none
  | _ => none
def bIsi (M : DM) : List RV → Option RV
  | [r, .v (.ty n)] => (tyOf M r).bind fun t => (kitB t n).map fun b => .v (.bl b)
  | _ => none
def bAll (M : DM) : List RV → Option RV
  | [r] => (asL M r).bind fun ds => (boolsO ds).map fun bs => .v (.bl (bs.all id))
  | _ => none
def bAny (M : DM) : List RV → Option RV
  | [r] => (asL M r).bind fun ds => (boolsO ds).map fun bs => .v (.bl (bs.any id))
  | _ => none
def bSum (M : DM) : List RV → Option RV
  | [r] => (asL M r).bind fun ds => (intsO ds).map fun bs => .v (.int bs.sum)
  | _ => none
def keysS (kvs : List (Key × DV)) : Option (List Str) := mapO (fun p => match p.1 with | .inr s => some s | .inl _ => none) kvs
def insS (x : Str) : List Str → List Str
  | [] => [x]
  | y :: ys => if decide (y.cps.toList < x.cps.toList) = true then y :: insS x ys else x :: y :: ys
/-- texts put in order, one after the other -/
def isrtS : List Str → List Str
  | [] => []
  | x :: xs => insS x (isrtS xs)
theorem insS_perm (x : Str) : ∀ l : List Str, (insS x l).Perm (x :: l)
  | [] => List.Perm.refl _
  | y :: ys => by
    unfold insS
    split
    · exact ((insS_perm x ys).cons y).trans (List.Perm.swap x y ys)
    · exact List.Perm.refl _
theorem isrtS_perm : ∀ l : List Str, (isrtS l).Perm l
  | [] => List.Perm.refl _
  | x :: xs => (insS_perm x _).trans ((isrtS_perm xs).cons x)
theorem insS_sorted (x : Str) : ∀ l : List Str, l.Pairwise leS → (insS x l).Pairwise leS
  | [], _ => List.pairwise_singleton _ _
  | y :: ys, h => by
    have hy := List.pairwise_cons.mp h
    unfold insS
    split
    · rename_i e
      have e := of_decide_eq_true e
      refine List.pairwise_cons.mpr ⟨fun z hz => ?_, insS_sorted x ys hy.2⟩
      rcases List.mem_cons.mp ((insS_perm x ys).mem_iff.mp hz) with rfl | hz
      · exact List.lt_asymm e
      · exact hy.1 z hz
    · rename_i e
      have e : leS x y := fun z => e (decide_eq_true z)
      refine List.pairwise_cons.mpr ⟨fun z hz => ?_, h⟩
      rcases List.mem_cons.mp hz with rfl | hz
      · exact e
      · exact leS_trans e (hy.1 z hz)
theorem isrtS_sorted : ∀ l : List Str, (isrtS l).Pairwise leS
  | [] => List.Pairwise.nil
  | x :: xs => insS_sorted x _ (isrtS_sorted xs)
theorem isrtS_eq (l : List Str) : isrtS l = srt l := srt_eq (isrtS_perm l) ((sortedS_iff _).mpr (isrtS_sorted l))
def bSorted (M : DM) : List RV → Option RV
  | [r] => match asL M r with
    | some ds => (strsO ds).bind fun zs => if zs.length < 64 then some (.lst ((isrtS zs).map DV.str)) else none
    | none => (asD M r).bind fun kvs => (keysS kvs).bind fun zs => if zs.length < 64 then some (.lst ((isrtS zs).map DV.str)) else none
  | _ => none
def bList (M : DM) : List RV → Option RV
  | [r] => match asS M r with
    | some ds => some (.lst ds)
    | none => (asD M r).map fun kvs => .lst (kvs.map fun p => kDV p.1)
  | _ => none
def bTuple (M : DM) : List RV → Option RV
  | [r] => match asL M r with
    | some ds => some (.v (.tup ds))
    | none => match r with
      | .v (.tup ds) => some (.v (.tup ds))
      | _ => none
  | _ => none
def pairO (d : DV) : Option (Key × DV) := match d with
  | .tup [k, v] => (keyOf (.v k)).map fun k => (k, v)
  | _ => none
def bDict (M : DM) : List RV → Option RV
  | [r] => match asL M r with
    | some ds => (mapO pairO ds).bind fun kvs => if kvs.length ≤ LIM then some (.dic (mergeD [] kvs)) else none
    | none => (asD M r).map .dic
  | _ => none
def bInt (_ : DM) : List RV → Option RV
  | [.v (.int i)] => some (.v (.int i))
  | [.v (.bl b)] => some (.v (.int (if b then 1 else 0)))
  | [.v (.str s)] => if s.length ≤ 640 then (PySem.intText? s).map fun n => .v (.int n) else none
  | _ => none
def bStr (_ : DM) : List RV → Option RV
  | [.v (.int i)] => if i.natAbs.log2 < 1920 then some (.v (.str (toString i))) else none
  | [.v (.str s)] => some (.v (.str s))
  | _ => none
def bMin (_ : DM) : List RV → Option RV
  | [.v (.int i), .v (.int j)] => some (.v (.int (if j < i then j else i)))
  | _ => none
def bMax (_ : DM) : List RV → Option RV
  | [.v (.int i), .v (.int j)] => some (.v (.int (if j > i then j else i)))
  | _ => none
def bAbs (_ : DM) : List RV → Option RV
  | [.v (.int i)] => some (.v (.int (if i < 0 then -i else i)))
  | _ => none
section
variable {X : Cx}
theorem one_ {K : PySem.W.Frag} {ι : List Addr} {H : Hp} {r : RV} {xs : List V} (h : RVRs K ι H [r] xs) : ∃ v, xs = [v] ∧ RVR K ι H r v := by cases h with | cons a t => cases t; exact ⟨_, rfl, a⟩
theorem two_ {K : PySem.W.Frag} {ι : List Addr} {H : Hp} {r q : RV} {xs : List V} (h : RVRs K ι H [r, q] xs) : ∃ v w, xs = [v, w] ∧ RVR K ι H r v ∧ RVR K ι H q w := by cases h with | cons a t => cases t with | cons b t => cases t; exact ⟨_, _, rfl, a, b⟩
theorem ty_of {K : PySem.W.Frag} {ι : List Addr} {H : Hp} {M : DM} {r : RV} {v : V} {t : String} (R : Rep K ι H M) (h : RVR K ι H r v) (e : tyOf M r = some t) : TyX K H v (.type t) := by
  cases h with
  | lst n g _ => cases e; exact .base (.lst g)
  | dic n g _ => cases e; exact .base (.dK g)
  | v h => cases h with
    | non => cases e; exact .base .non
    | bl b => cases e; exact .base (.bl b)
    | int b => cases e; exact .base (.int b)
    | str b => cases e; exact .base (.str b)
    | tup q _ =>
      cases e
      rcases q with (q | ⟨o, q⟩) | ⟨o, its, n, q, c, _⟩
      · exact .base (.tup q)
      · exact .fTuple q
      · exact .kTuple q c
    | glo _ => cases e
    | ty _ => cases e
    | exn => cases e
    | scr _ => cases e
    | @obj n a hn =>
      simp only [tyOf] at e
      split at e
      · rename_i hm
        cases e
        obtain ⟨u, g, xs, rfl, t⟩ := R.at_ _ _ _ hn hm
        exact .base (.lst g)
      · rename_i lk kvs hm
        cases e
        obtain ⟨u, g, q⟩ := R.at_ _ _ _ hn hm
        cases lk with
        | false => obtain ⟨es, rfl, t⟩ := q; exact .base (.dK g)
        | true => obtain ⟨o, es, rfl, t⟩ := q; exact .fDict g
      · cases e
theorem cb_len : CallR X (.builtin "len") (rIs X.K bLen) := by
  intro pins s σ H xs us Q I rx ⟨ι, M, rs, r, R, hx, e, k⟩
  unfold bLen at e
  split at e
  · split at e
    · rename_i hl
      cases e
      obtain ⟨v, rfl, hv⟩ := one_ hx
      cases vr_str hv
      exact call_len_str pins s σ H _ us Q I rx ⟨_, rfl, lim_line hl, k _ H (Same.refl H) (.v (.int _)) trivial⟩
    · cases e
  · cases e
    obtain ⟨v, rfl, hv⟩ := one_ hx
    cases hv with | dic n g t => exact call_lenD pins s σ H _ us Q I rx ⟨_, _, rfl, g, k _ H (Same.refl H) (.v (by rw [FR.length t]; exact .int _)) trivial⟩
  · obtain ⟨v, rfl, hv⟩ := one_ hx
    split at e
    · rename_i ds es
      cases e
      obtain ⟨p, ys, rfl, hq, t⟩ := asS_ok R hv es
      exact call_len_seq pins s σ H _ us Q I rx ⟨p, ys, rfl, hq, k _ H (Same.refl H) (.v (by rw [t.length]; exact .int _)) trivial⟩
    · split at e
      · simp only [Option.map_eq_some_iff] at e
        obtain ⟨⟨n, kvs⟩, ed, rfl⟩ := e
        cases hv with
        | v hv =>
          obtain ⟨a, es, rfl, _, g, t⟩ := dicAt_ok R hv ed
          exact call_lenD pins s σ H _ us Q I rx ⟨_, _, rfl, g, k _ H (Same.refl H) (.v (by rw [FR.length t]; exact .int _)) trivial⟩
      · cases e
  · cases e
theorem cb_isi : CallR X (.builtin "isinstance") (rIs X.K bIsi) := by
  intro pins s σ H xs us Q I rx ⟨ι, M, rs, r, R, hx, e, k⟩
  unfold bIsi at e
  split at e
  · simp only [Option.bind_eq_some_iff, Option.map_eq_some_iff] at e
    obtain ⟨t, e1, b, e2, rfl⟩ := e
    obtain ⟨v, w, rfl, hv, hw⟩ := two_ hx
    cases hw with
    | v hw => cases hw with
      | ty n => exact call_isi pins s σ H _ us Q I rx ⟨v, .ty _, .type t, .type _, b, rfl, .ty _, ty_of R hv e1, kit_ty e2, k _ H (Same.refl H) (.v (.bl b)) trivial⟩
  · cases e
theorem cb_all (hc : X.calm = true) : CallR X (.builtin "all") (rIs X.K bAll) := by
  intro pins s σ H xs us Q I rx ⟨ι, M, rs, r, R, hx, e, k⟩
  unfold bAll at e
  split at e
  · simp only [Option.bind_eq_some_iff, Option.map_eq_some_iff] at e
    obtain ⟨ds, e1, bs, e2, rfl⟩ := e
    obtain ⟨v, rfl, hv⟩ := one_ hx
    obtain ⟨a, ys, rfl, g, t⟩ := asL_ok R hv e1
    cases boolsO_ok t e2
    exact cr_all hc pins s σ H _ us Q I rx ⟨a, bs, rfl, g, k _ H (Same.refl H) (.v (.bl _)) trivial⟩
  · cases e
theorem cb_any (hc : X.calm = true) : CallR X (.builtin "any") (rIs X.K bAny) := by
  intro pins s σ H xs us Q I rx ⟨ι, M, rs, r, R, hx, e, k⟩
  unfold bAny at e
  split at e
  · simp only [Option.bind_eq_some_iff, Option.map_eq_some_iff] at e
    obtain ⟨ds, e1, bs, e2, rfl⟩ := e
    obtain ⟨v, rfl, hv⟩ := one_ hx
    obtain ⟨a, ys, rfl, g, t⟩ := asL_ok R hv e1
    cases boolsO_ok t e2
    exact cr_any hc pins s σ H _ us Q I rx ⟨a, bs, rfl, g, k _ H (Same.refl H) (.v (.bl _)) trivial⟩
  · cases e
theorem cb_sum (hc : X.calm = true) : CallR X (.builtin "sum") (rIs X.K bSum) := by
  intro pins s σ H xs us Q I rx ⟨ι, M, rs, r, R, hx, e, k⟩
  unfold bSum at e
  split at e
  · simp only [Option.bind_eq_some_iff, Option.map_eq_some_iff] at e
    obtain ⟨ds, e1, bs, e2, rfl⟩ := e
    obtain ⟨v, rfl, hv⟩ := one_ hx
    obtain ⟨a, ys, rfl, g, t⟩ := asL_ok R hv e1
    cases intsO_ok t e2
    exact cr_sum hc pins s σ H _ us Q I rx ⟨a, bs, rfl, g, k _ H (Same.refl H) (.v (.int _)) trivial⟩
  · cases e
theorem vrs_str {K : PySem.W.Frag} {ι : List Addr} {H : Hp} : ∀ zs : List Str, VRs K ι H (zs.map DV.str) (zs.map V.str)
  | [] => .nil
  | z :: zs => .cons (.str z) (vrs_str zs)
theorem keysS_ok {K : PySem.W.Frag} {ι : List Addr} {H : Hp} : ∀ {kvs : List (Key × DV)} {es : List (Key × V)} {zs : List Str}, FR K ι H kvs es → keysS kvs = some zs → es.map (·.1) = zs.map Sum.inr
  | [], [], _, .nil, e => by cases e; rfl
  | p :: kvs, q :: es, _, .cons h t, e => by
    unfold keysS mapO at e
    split at e
    · rename_i b bs e1 e2
      cases e
      split at e1
      · rename_i z hz
        cases e1
        rw [List.map_cons, List.map_cons, keysS_ok t e2, ← h.1, hz]
      · cases e1
    · cases e
/-- what sorted says of a dict -/
abbrev rSortD : List V → Hp → VK → Prop := fun xs H Q => ∃ (a : Addr) (kvs : List (Key × V)) (ks : List Str), xs = [.ref a] ∧ Rd H a (.dK kvs) ∧ kvs.map (·.1) = ks.map Sum.inr ∧ ks.length < 64 ∧
    ∀ ys p, ys.Perm ks → sortedS ys = true → H p = none → Q (.ref p) (upd H p (.lst (ys.map V.str)))
theorem cb_sortedOf (hD : CallR X (.builtin "sorted") rSortD) : CallR X (.builtin "sorted") (rIs X.K bSorted) := by
  intro pins s σ H xs us Q I rx ⟨ι, M, rs, r, R, hx, e, k⟩
  unfold bSorted at e
  split at e
  · obtain ⟨v, rfl, hv⟩ := one_ hx
    have fin : ∀ {zs ys : List Str} {p : Addr}, r = .lst ((isrtS zs).map DV.str) → ys.Perm zs → sortedS ys = true → H p = none → Q (.ref p) (upd H p (.lst (ys.map V.str))) := fun {zs ys p} er hp hs hn => by
      subst er
      rw [srt_eq hp hs, ← isrtS_eq]
      have S := Same.new (u := .lst ((isrtS zs).map V.str)) hn
      exact k _ _ S (.lst (fun m => R.there m hn) upd_same (vrs_str _)) fun a e => by cases e; exact .inl hn
    split at e
    · rename_i ds el
      simp only [Option.bind_eq_some_iff] at e
      obtain ⟨zs, e1, e2⟩ := e
      split at e2
      · rename_i hl
        cases e2
        obtain ⟨a, ys, rfl, g, t⟩ := asL_ok R hv el
        cases strsO_ok t e1
        exact cr_sortedS pins s σ H _ us Q I rx ⟨a, zs, rfl, g, hl, fun ys p hp hs hn => fin rfl hp hs hn⟩
      · cases e2
    · simp only [Option.bind_eq_some_iff] at e
      obtain ⟨kvs, ed, zs, e1, e2⟩ := e
      split at e2
      · rename_i hl
        cases e2
        obtain ⟨a, es, rfl, rd, t⟩ := asD_ok R hv ed
        exact hD pins s σ H _ us Q I rx ⟨a, es, zs, rfl, rd, keysS_ok t e1, hl, fun ys p hp hs hn => fin rfl hp hs hn⟩
      · cases e2
  · cases e
theorem cb_sorted (hc : X.calm = true) : CallR X (.builtin "sorted") (rIs X.K bSorted) := cb_sortedOf (call_sortedD hc)
theorem keys_vrs {K : PySem.W.Frag} {ι : List Addr} {H : Hp} : ∀ {kvs : List (Key × DV)} {es : List (Key × V)}, FR K ι H kvs es → VRs K ι H (kvs.map fun p => kDV p.1) (es.map fun p => kV p.1)
  | [], [], .nil => .nil
  | _ :: _, _ :: _, .cons h t => .cons (by show VR K ι H (kDV _) (kV _); rw [← h.1]; exact kDV_ok _) (keys_vrs t)
theorem cb_list (hc : X.calm = true) : CallR X (.type "list") (rIs X.K bList) := by
  intro pins s σ H xs us Q I rx ⟨ι, M, rs, r, R, hx, e, k⟩
  unfold bList at e
  split at e
  · obtain ⟨v, rfl, hv⟩ := one_ hx
    have fin : ∀ {ds : List DV} {ys : List V} {p : Addr}, r = .lst ds → VRs X.K ι H ds ys → H p = none → Q (.ref p) (upd H p (.lst ys)) := fun {ds ys p} er t hn => by
      subst er
      have S := Same.new (u := .lst ys) hn
      exact k _ _ S (.lst (fun m => R.there m hn) upd_same (t.aft R (Aft.same S))) fun a e => by cases e; exact .inl hn
    split at e
    · rename_i ds es
      cases e
      obtain ⟨p, ys, rfl, hq, t⟩ := asS_ok R hv es
      exact call_list_of pins s σ H _ us Q I rx ⟨p, ys, rfl, hq, fun l hl => fin rfl t hl⟩
    · simp only [Option.map_eq_some_iff] at e
      obtain ⟨kvs, ed, rfl⟩ := e
      obtain ⟨a, es, rfl, rd, t⟩ := asD_ok R hv ed
      exact call_listD hc pins s σ H _ us Q I rx ⟨a, es, rfl, rd, fun l hl => fin rfl (keys_vrs t) hl⟩
  · cases e
theorem cb_tuple : CallR X (.type "tuple") (rIs X.K bTuple) := by
  intro pins s σ H xs us Q I rx ⟨ι, M, rs, r, R, hx, e, k⟩
  unfold bTuple at e
  split at e
  · obtain ⟨v, rfl, hv⟩ := one_ hx
    split at e
    · rename_i ds el
      cases e
      obtain ⟨a, ys, rfl, g, t⟩ := asL_ok R hv el
      refine call_tuple_of pins s σ H _ us Q I rx ⟨a, ys, rfl, .inl ⟨g, fun l hl => ?_⟩⟩
      have S := Same.new (u := .tup ys) hl
      exact k _ _ S (.v (.tup (SqT.of upd_same) (t.aft R (Aft.same S)))) trivial
    · split at e
      · cases e
        obtain ⟨a, ys, rfl, q, t⟩ := vr_tup hv
        exact call_tuple_of pins s σ H _ us Q I rx ⟨a, ys, rfl, .inr ⟨q, k _ H (Same.refl H) hv trivial⟩⟩
      · cases e
  · cases e
theorem pairs_ok {K : PySem.W.Frag} {ι : List Addr} {H : Hp} : ∀ {ds : List DV} {vs : List V} {kvs : List (Key × DV)}, VRs K ι H ds vs → mapO pairO ds = some kvs → ∃ (ps : List Addr) (es : List (Key × V)), vs = ps.map V.ref ∧ Paired (fun p kv => SqT K H p [kV kv.1, kv.2]) ps es ∧ FR K ι H kvs es
  | [], _, _, .nil, e => by cases e; exact ⟨[], [], rfl, .nil, .nil⟩
  | d :: ds, _, _, .cons h t, e => by
    unfold mapO at e
    split at e
    · rename_i b bs e1 e2
      cases e
      obtain ⟨ps, es, rfl, hp, hf⟩ := pairs_ok t e2
      unfold pairO at e1
      split at e1
      · simp only [Option.map_eq_some_iff] at e1
        obtain ⟨k, ek, rfl⟩ := e1
        cases h with
        | @tup a xs _ q tt =>
          cases tt with
          | cons h1 t1 => cases t1 with
            | cons h2 t2 =>
              cases t2
              cases keyOf_ok (.v h1) ek
              exact ⟨a :: ps, (k, _) :: es, rfl, .cons q hp, .cons ⟨rfl, h2⟩ hf⟩
      · cases e1
    · cases e
theorem cb_dict (hc : X.calm = true) : CallR X (.type "dict") (rIs X.K bDict) := by
  intro pins s σ H xs us Q I rx ⟨ι, M, rs, r, R, hx, e, k⟩
  unfold bDict at e
  split at e
  · obtain ⟨v, rfl, hv⟩ := one_ hx
    have fin : ∀ {ds : List (Key × DV)} {ys : List (Key × V)} {p : Addr}, r = .dic ds → FR X.K ι H ds ys → H p = none → Q (.ref p) (upd H p (.dK ys)) := fun {ds ys p} er t hn => by
      subst er
      have S := Same.new (u := .dK ys) hn
      exact k _ _ S (.dic (fun m => R.there m hn) upd_same (FR.aft R (Aft.same S) t)) fun a e => by cases e; exact .inl hn
    split at e
    · rename_i ds el
      simp only [Option.bind_eq_some_iff] at e
      obtain ⟨kvs, e1, e2⟩ := e
      split at e2
      · cases e2
        obtain ⟨a, ys, rfl, g, t⟩ := asL_ok R hv el
        obtain ⟨ps, es, rfl, hp, hf⟩ := pairs_ok t e1
        exact call_dictP hc pins s σ H _ us Q I rx ⟨a, ps, es, rfl, g, hp, fun p hn => fin rfl (FR.merge hf .nil) hn⟩
      · cases e2
    · simp only [Option.map_eq_some_iff] at e
      obtain ⟨kvs, ed, rfl⟩ := e
      obtain ⟨a, es, rfl, rd, t⟩ := asD_ok R hv ed
      exact call_dictD pins s σ H _ us Q I rx ⟨a, es, rfl, rd, fun p hn => fin rfl t hn⟩
  · cases e
theorem cb_int : CallR X (.type "int") (rIs X.K bInt) := by
  intro pins s σ H xs us Q I rx ⟨ι, M, rs, r, R, hx, e, k⟩
  unfold bInt at e
  split at e
  · cases e; obtain ⟨v, rfl, hv⟩ := one_ hx; cases vr_int hv
    exact call_int1 pins s σ H _ us Q I rx (.inl ⟨_, rfl, k _ H (Same.refl H) (.v (.int _)) trivial⟩)
  · cases e; obtain ⟨v, rfl, hv⟩ := one_ hx; cases vr_bl hv
    exact call_int1 pins s σ H _ us Q I rx (.inr ⟨_, rfl, k _ H (Same.refl H) (.v (.int _)) trivial⟩)
  · split at e
    · rename_i hl
      simp only [Option.map_eq_some_iff] at e
      obtain ⟨n, en, rfl⟩ := e
      obtain ⟨v, rfl, hv⟩ := one_ hx; cases vr_str hv
      exact call_int_str pins s σ H _ us Q I rx ⟨_, n, rfl, en, hl, k _ H (Same.refl H) (.v (.int _)) trivial⟩
    · cases e
  · cases e
theorem cb_str : CallR X (.type "str") (rIs X.K bStr) := by
  intro pins s σ H xs us Q I rx ⟨ι, M, rs, r, R, hx, e, k⟩
  unfold bStr at e
  split at e
  · split at e
    · rename_i hl
      cases e; obtain ⟨v, rfl, hv⟩ := one_ hx; cases vr_int hv
      exact call_str_int pins s σ H _ us Q I rx ⟨_, rfl, hl, k _ H (Same.refl H) (.v (.str _)) trivial⟩
    · cases e
  · cases e; obtain ⟨v, rfl, hv⟩ := one_ hx; cases vr_str hv
    exact SkE.call_str_str pins s σ H _ us Q I rx ⟨_, rfl, k _ H (Same.refl H) (.v (.str _)) trivial⟩
  · cases e
theorem cb_min (hc : X.calm = true) : CallR X (.builtin "min") (rIs X.K bMin) := by
  intro pins s σ H xs us Q I rx ⟨ι, M, rs, r, R, hx, e, k⟩
  unfold bMin at e
  split at e
  · cases e; obtain ⟨v, w, rfl, hv, hw⟩ := two_ hx; cases vr_int hv; cases vr_int hw
    exact call_min2 hc pins s σ H _ us Q I rx ⟨_, _, rfl, k _ H (Same.refl H) (.v (.int _)) trivial⟩
  · cases e
theorem cb_max (hc : X.calm = true) : CallR X (.builtin "max") (rIs X.K bMax) := by
  intro pins s σ H xs us Q I rx ⟨ι, M, rs, r, R, hx, e, k⟩
  unfold bMax at e
  split at e
  · cases e; obtain ⟨v, w, rfl, hv, hw⟩ := two_ hx; cases vr_int hv; cases vr_int hw
    exact call_max2 hc pins s σ H _ us Q I rx ⟨_, _, rfl, k _ H (Same.refl H) (.v (.int _)) trivial⟩
  · cases e
theorem cb_abs : CallR X (.builtin "abs") (rIs X.K bAbs) := by
  intro pins s σ H xs us Q I rx ⟨ι, M, rs, r, R, hx, e, k⟩
  unfold bAbs at e
  split at e
  · cases e; obtain ⟨v, rfl, hv⟩ := one_ hx; cases vr_int hv
    exact call_abs pins s σ H _ us Q I rx ⟨_, rfl, k _ H (Same.refl H) (.v (.int _)) trivial⟩
  · cases e
end

end
end Lk
end

section
set_option Elab.async false
set_option linter.all false
set_option maxRecDepth 100000
set_option maxHeartbeats 4000000
namespace Lk
open PySem PySem.Spec PyProof.Rows L2
noncomputable section
variable [Tbl] [Lnk]
/-! ## IV: methods of lists, dicts, texts; raise -/
def rMt (K : PySem.W.Frag) (g : DM → DV → List DV → Option (RV × DM)) : V → List V → Hp → VK → Prop := fun x xs H Q => ∃ ι M d ds r M', Rep K ι H M ∧ VR K ι H d x ∧ VRs K ι H ds xs ∧ g M d ds = some (r, M') ∧ ∀ v H', Aft ι H ι H' → Rep K ι H' M' → RVR K ι H' r v → Fresh H r v → Q v H'
def rMtR (K : PySem.W.Frag) (g : DM → DV → List RV → Option RV) : V → List V → Hp → VK → Prop := fun x xs H Q => ∃ ι M d ds r, Rep K ι H M ∧ VR K ι H d x ∧ RVRs K ι H ds xs ∧ g M d ds = some r ∧ ∀ v H', Same H H' → RVR K ι H' r v → Fresh H r v → Q v H'
/-- the receiver's kind -/
def kindD (T : String) (M : DM) (d : DV) : Bool := if T = "list" then (lstAt M d).isSome else if T = "dict" then (dicAt M d).isSome else if T = "str" then (match d with | .str _ => true | _ => false) else false
theorem kindD_ok {K : PySem.W.Frag} {ι : List Addr} {H : Hp} {M : DM} {T : String} {d : DV} {v : V} (R : Rep K ι H M) (h : VR K ι H d v) (e : kindD T M d = true) : tyV K T v H := by
  unfold kindD at e
  split at e
  · rename_i hT
    obtain ⟨⟨n, ds⟩, el⟩ := Option.isSome_iff_exists.mp e
    obtain ⟨a, xs, rfl, _, g, _⟩ := lstAt_ok R h el
    exact .inl ⟨hT, xs, SqL.of g⟩
  · split at e
    · rename_i hT
      obtain ⟨⟨n, ds⟩, el⟩ := Option.isSome_iff_exists.mp e
      obtain ⟨a, es, rfl, _, g, _⟩ := dicAt_ok R h el
      exact .inr (.inr (.inl ⟨hT, .inl ⟨es, g⟩⟩))
    · split at e
      · rename_i hT
        split at e
        · cases h; exact hT
        · cases e
      · cases e
def mMt (T : String) (g : DM → DV → List DV → Option (RV × DM)) (mo : DS → DM → Res DV) (ms : DA) : DE := fun δ M => (mo δ M).bind fun d M1 => if kindD T M1 d = true then (ms δ M1).bind fun ds M2 => match g M2 d ds with
  | some p => .ok p.1 p.2
  | none => .bad
  else .bad
def mMtR (T : String) (g : DM → DV → List RV → Option RV) (mo : DS → DM → Res DV) (ms : DR) : DE := fun δ M => (mo δ M).bind fun d M1 => if kindD T M1 d = true then (ms δ M1).bind fun ds M2 => ansR M2 (g M2 d ds) else .bad
section
variable {K : PySem.W.Frag} {W : WX} {σ : L2.St} {H : Hp} {Q : VK} {T : String} {mo : DS → DM → Res DV} {ms : DA} {mr : DR}
theorem tI_mt {g : DM → DV → List DV → Option (RV × DM)} : tI K W (mMt T g mo ms) σ H Q → tBM K T (rMt K g) (tIv K W mo) (tIa K W ms) σ H Q := fun ⟨ι, δ, M, hs, R, h⟩ => by
  refine ⟨ι, δ, M, hs, R, (Post.bind early_E hs R h).imp ?_⟩
  rintro v H1 ⟨d, ι1, M1, A1, hs1, R1, hd, h1⟩
  have hd : VR K ι1 H1 d v := hd
  split at h1
  · rename_i hk
    refine ⟨kindD_ok R1 hd hk, ι1, δ, M1, hs1, R1, (Post.bind early_E hs1 R1 h1).imp ?_⟩
    rintro vs H2 ⟨ds, ι2, M2, A2, hs2, R2, hv, h2⟩
    cases e : g M2 d ds with
    | none => simp only [e] at h2; exact h2.elim
    | some p => simp only [e] at h2; exact ⟨ι2, M2, d, ds, p.1, p.2, R2, VR.aft R1 A2 hd, hv, e, fun v H' A R' r' f => h2 ι2 v H' A R' ⟨r', f⟩⟩
  · exact h1.elim
theorem tI_mt0 {g : DM → DV → List DV → Option (RV × DM)} : tI K W (mMt T g mo mNil) σ H Q → tBM0 K T (rMt K g) (tIv K W mo) σ H Q := fun ⟨ι, δ, M, hs, R, h⟩ => by
  refine ⟨ι, δ, M, hs, R, (Post.bind early_E hs R h).imp ?_⟩
  rintro v H1 ⟨d, ι1, M1, A1, hs1, R1, hd, h1⟩
  have hd : VR K ι1 H1 d v := hd
  split at h1
  · rename_i hk
    have h2 : Post K W σ ι1 H1 (relE K) (match g M1 d [] with | some p => .ok p.1 p.2 | none => .bad) Q := h1
    cases e : g M1 d [] with
    | none => simp only [e] at h2; exact h2.elim
    | some p => simp only [e] at h2; exact ⟨kindD_ok R1 hd hk, ι1, M1, d, [], p.1, p.2, R1, hd, .nil, e, fun v H' A R' r' f => h2 ι1 v H' A R' ⟨r', f⟩⟩
  · exact h1.elim
theorem tI_mtR {g : DM → DV → List RV → Option RV} : tI K W (mMtR T g mo mr) σ H Q → tBM K T (rMtR K g) (tIv K W mo) (tIr K W mr) σ H Q := fun ⟨ι, δ, M, hs, R, h⟩ => by
  refine ⟨ι, δ, M, hs, R, (Post.bind early_E hs R h).imp ?_⟩
  rintro v H1 ⟨d, ι1, M1, A1, hs1, R1, hd, h1⟩
  have hd : VR K ι1 H1 d v := hd
  split at h1
  · rename_i hk
    refine ⟨kindD_ok R1 hd hk, ι1, δ, M1, hs1, R1, (Post.bind early_E hs1 R1 h1).imp ?_⟩
    rintro vs H2 ⟨ds, ι2, M2, A2, hs2, R2, hv, h2⟩
    have h2 : Post K W σ ι2 H2 (relE K) (ansR M2 (g M2 d ds)) Q := h2
    cases e : g M2 d ds with
    | none => rw [e] at h2; exact h2.elim
    | some r => rw [e] at h2; exact ⟨ι2, M2, d, ds, r, R2, VR.aft R1 A2 hd, hv, e, fun v H' S r' f => Post.same h2 R2 S ⟨r', f⟩⟩
  · exact h1.elim
end
def gAppend (M : DM) (o : DV) (args : List DV) : Option (RV × DM) := match lstAt M o, args with
  | some (n, ds), [d] => if ds.length < LIM then some (.v .non, M.set n (.lst (ds ++ [d]))) else none
  | _, _ => none
def gPop (M : DM) (o : DV) (args : List DV) : Option (RV × DM) := match lstAt M o, args with
  | some (n, ds), [] => match ds[ds.length - 1]? with
    | some d => some (.v d, M.set n (.lst ds.dropLast))
    | none => none
  | some (n, ds), [.int i] => if -(2 ^ 63) ≤ i ∧ i < 2 ^ 63 then match seqIndex? i ds.length with
      | some k => match ds[k]? with
        | some d => some (.v d, M.set n (.lst (ds.eraseIdx k)))
        | none => none
      | none => none
    else none
  | _, _ => none
def gClear (M : DM) (o : DV) (args : List DV) : Option (RV × DM) := match lstAt M o, args with
  | some (n, _), [] => some (.v .non, M.set n (.lst []))
  | _, _ => none
def gClearD (M : DM) (o : DV) (args : List DV) : Option (RV × DM) := match dicAt M o, args with
  | some (n, _), [] => some (.v .non, M.set n (.dic false []))
  | _, _ => none
def gInsert (M : DM) (o : DV) (args : List DV) : Option (RV × DM) := match lstAt M o, args with
  | some (n, ds), [.int i, d] => if ds.length < LIM ∧ 0 ≤ i ∧ i < 2 ^ 63 then some (.v .non, M.set n (.lst (ds.take i.toNat ++ [d] ++ ds.drop i.toNat))) else none
  | _, _ => none
def strsR (zs : List Str) : RV := .lst (zs.map DV.str)
def gSplit (_ : DM) (o : DV) (args : List RV) : Option RV := match o, args with
  | .str a, [.v (.str b)] => if (b.length == 0) = false ∧ a.length ≤ LIM then some (strsR (Txt.split a b)) else none
  | .str a, [.v (.str b), .v (.int k)] => if (b.length == 0) = false ∧ a.length ≤ LIM ∧ -(2 ^ 63) ≤ k ∧ k < 2 ^ 63 then some (strsR (Txt.splitMax a b k)) else none
  | _, _ => none
def gRsplit (_ : DM) (o : DV) (args : List RV) : Option RV := match o, args with
  | .str a, [.v (.str b), .v (.int k)] => if (b.length == 0) = false ∧ a.length ≤ LIM ∧ -(2 ^ 63) ≤ k ∧ k < 2 ^ 63 then some (strsR (PySem.Txt.rsplitMax a b k)) else none
  | _, _ => none
def gJoin (M : DM) (o : DV) (args : List RV) : Option RV := match o, args with
  | .str a, [r] => (asS M r).bind fun ds => (strsO ds).bind fun zs => if (zs.map (·.length)).sum + zs.length * a.length ≤ 16777216 then some (.v (.str (Txt.join a zs))) else none
  | _, _ => none
section
variable {X : Cx}
theorem vrs_one {K : PySem.W.Frag} {ι : List Addr} {H : Hp} {d : DV} {xs : List V} (h : VRs K ι H [d] xs) : ∃ v, xs = [v] ∧ VR K ι H d v := by cases h with | cons a t => cases t; exact ⟨_, rfl, a⟩
theorem vrs_nil {K : PySem.W.Frag} {ι : List Addr} {H : Hp} {xs : List V} (h : VRs K ι H [] xs) : xs = [] := by cases h; rfl
/-- a numbered object is written -/
theorem wrote {K : PySem.W.Frag} {ι : List Addr} {H : Hp} {M : DM} (R : Rep K ι H M) {n : Nat} {a : Addr} {u u' : HO} {o : DObj} (hn : ι[n]? = some a) (g : H a = some u) (nz : ∀ o x, u ≠ .frz o x) (ho : OR K ι H o u') : Aft ι H ι (upd H a u') ∧ Rep K ι (upd H a u') (M.set n o) :=
  ⟨Aft.put (List.mem_of_getElem? hn) (nz_of g nz) ho.nt, R.put hn ho⟩
theorem mg_append : MtR X "list.append" (rMt X.K gAppend) := by
  intro pins s σ H x xs v us Q I rx rxs ⟨ι, M, d, ds, r, M', R, hd, hds, e, k⟩
  unfold gAppend at e
  split at e
  · split at e
    · rename_i n es d' el hl
      cases e
      obtain ⟨a, ys, rfl, hn, g, t⟩ := lstAt_ok R hd el
      obtain ⟨w, rfl, hw⟩ := vrs_one hds
      obtain ⟨A, R'⟩ := wrote (o := .lst (es ++ [d'])) R hn g (fun _ _ z => by cases z) ⟨ys ++ [w], rfl, t.append (.cons hw .nil)⟩
      exact mt_append pins s σ H _ _ v us Q I rx rxs ⟨a, ys, w, rfl, rfl, g, lim_lt (by rw [← t.length]; exact hl), k _ _ A R' (.v .non) trivial⟩
    · cases e
  · cases e
theorem VRs.dropLast {K : PySem.W.Frag} {ι : List Addr} {H : Hp} {ds : List DV} {vs : List V} (h : VRs K ι H ds vs) : VRs K ι H ds.dropLast vs.dropLast := by
  rw [List.dropLast_eq_take, List.dropLast_eq_take, h.length]; exact h.take _
theorem VRs.erase {K : PySem.W.Frag} {ι : List Addr} {H : Hp} {ds : List DV} {vs : List V} (h : VRs K ι H ds vs) (n : Nat) : VRs K ι H (ds.eraseIdx n) (vs.eraseIdx n) := by
  rw [List.eraseIdx_eq_take_drop_succ, List.eraseIdx_eq_take_drop_succ]; exact (h.take _).append (h.drop _)
theorem mg_pop : MtR X "list.pop" (rMt X.K gPop) := by
  intro pins s σ H x xs v us Q I rx rxs ⟨ι, M, d, ds, r, M', R, hd, hds, e, k⟩
  unfold gPop at e
  split at e
  · rename_i n es el
    split at e
    · rename_i d' ed
      cases e
      obtain ⟨a, ys, rfl, hn, g, t⟩ := lstAt_ok R hd el
      cases vrs_nil hds
      obtain ⟨w, ew, rw'⟩ := t.get ed
      obtain ⟨A, R'⟩ := wrote (o := .lst es.dropLast) R hn g (fun _ _ z => by cases z) ⟨ys.dropLast, rfl, t.dropLast⟩
      exact mt_pop pins s σ H _ _ v us Q I rx rxs ⟨a, ys, w, rfl, rfl, g, by rw [← t.length]; exact ew, k _ _ A R' (.v (rw'.aft R A)) trivial⟩
    · cases e
  · rename_i n es i el
    split at e
    · rename_i hb
      split at e
      · rename_i kk ek
        split at e
        · rename_i d' ed
          cases e
          obtain ⟨a, ys, rfl, hn, g, t⟩ := lstAt_ok R hd el
          obtain ⟨iv, rfl, hi⟩ := vrs_one hds
          cases hi
          obtain ⟨w, ew, rw'⟩ := t.get ed
          obtain ⟨A, R'⟩ := wrote (o := .lst (es.eraseIdx kk)) R hn g (fun _ _ z => by cases z) ⟨ys.eraseIdx kk, rfl, t.erase kk⟩
          exact mt_popAt pins s σ H _ _ v us Q I rx rxs ⟨a, ys, i, kk, w, rfl, rfl, g, hb.1, hb.2, by rw [← t.length]; exact ek, ew, k _ _ A R' (.v (rw'.aft R A)) trivial⟩
        · cases e
      · cases e
    · cases e
  · cases e
theorem mg_clear : MtR X "list.clear" (rMt X.K gClear) := by
  intro pins s σ H x xs v us Q I rx rxs ⟨ι, M, d, ds, r, M', R, hd, hds, e, k⟩
  unfold gClear at e
  split at e
  · rename_i n es el
    cases e
    obtain ⟨a, ys, rfl, hn, g, t⟩ := lstAt_ok R hd el
    cases vrs_nil hds
    obtain ⟨A, R'⟩ := wrote (o := .lst []) R hn g (fun _ _ z => by cases z) ⟨[], rfl, .nil⟩
    exact mt_clear pins s σ H _ _ v us Q I rx rxs ⟨a, ys, rfl, rfl, g, k _ _ A R' (.v .non) trivial⟩
  · cases e
theorem mg_clearD : MtR X "dict.clear" (rMt X.K gClearD) := by
  intro pins s σ H x xs v us Q I rx rxs ⟨ι, M, d, ds, r, M', R, hd, hds, e, k⟩
  unfold gClearD at e
  split at e
  · rename_i n es el
    cases e
    obtain ⟨a, ys, rfl, hn, g, t⟩ := dicAt_ok R hd el
    cases vrs_nil hds
    obtain ⟨A, R'⟩ := wrote (o := .dic false []) R hn g (fun _ _ z => by cases z) ⟨[], rfl, .nil⟩
    exact mtd_clear pins s σ H _ _ v us Q I rx rxs ⟨a, ys, rfl, rfl, g, k _ _ A R' (.v .non) trivial⟩
  · cases e
theorem mg_insert : MtR X "list.insert" (rMt X.K gInsert) := by
  intro pins s σ H x xs v us Q I rx rxs ⟨ι, M, d, ds, r, M', R, hd, hds, e, k⟩
  unfold gInsert at e
  split at e
  · rename_i n es i d' el
    split at e
    · rename_i hb
      cases e
      obtain ⟨a, ys, rfl, hn, g, t⟩ := lstAt_ok R hd el
      cases hds with
      | cons h1 t1 => cases h1; obtain ⟨w, rfl, hw⟩ := vrs_one t1; exact (by
          obtain ⟨A, R'⟩ := wrote (o := .lst (es.take i.toNat ++ [d'] ++ es.drop i.toNat)) R hn g (fun _ _ z => by cases z) ⟨_, rfl, ((t.take i.toNat).append (.cons hw .nil)).append (t.drop i.toNat)⟩
          exact mt_insert pins s σ H _ _ v us Q I rx rxs ⟨a, ys, i, w, rfl, rfl, g, lim_lt (by rw [← t.length]; exact hb.1), hb.2.1, hb.2.2, k _ _ A R' (.v .non) trivial⟩)
    · cases e
  · cases e
theorem new_strs {K : PySem.W.Frag} {ι : List Addr} {H : Hp} {M : DM} {Q : VK} {zs : List Str} (R : Rep K ι H M) (k : ∀ v H', Same H H' → RVR K ι H' (strsR zs) v → Fresh H (strsR zs) v → Q v H') : rNewStrs zs H Q := fun p hp => by
  have S := Same.new (u := .lst (zs.map V.str)) hp
  exact k _ _ S (.lst (fun m => R.there m hp) upd_same (vrs_str _)) fun a e => by cases e; exact .inl hp
theorem mg_split : MtR X "str.split" (rMtR X.K gSplit) := by
  intro pins s σ H x xs v us Q I rx rxs ⟨ι, M, d, ds, r, R, hd, hds, e, k⟩
  unfold gSplit at e
  split at e
  · split at e
    · rename_i hb
      cases e
      cases hd
      obtain ⟨w, rfl, hw⟩ := one_ hds
      cases vr_str hw
      exact mt_split pins s σ H _ _ v us Q I rx rxs ⟨_, _, rfl, rfl, hb.1, lim_llt1 hb.2, new_strs R k⟩
    · cases e
  · split at e
    · rename_i hb
      cases e
      cases hd
      obtain ⟨w, z, rfl, hw, hz⟩ := two_ hds
      cases vr_str hw; cases vr_int hz
      exact mt_splitMax pins s σ H _ _ v us Q I rx rxs ⟨_, _, _, rfl, rfl, hb.1, hb.2.2.1, hb.2.2.2, lim_llt1 hb.2.1, new_strs R k⟩
    · cases e
  · cases e
theorem mg_rsplit : MtR X "str.rsplit" (rMtR X.K gRsplit) := by
  intro pins s σ H x xs v us Q I rx rxs ⟨ι, M, d, ds, r, R, hd, hds, e, k⟩
  unfold gRsplit at e
  split at e
  · split at e
    · rename_i hb
      cases e
      cases hd
      obtain ⟨w, z, rfl, hw, hz⟩ := two_ hds
      cases vr_str hw; cases vr_int hz
      exact mt_rsplitMax pins s σ H _ _ v us Q I rx rxs ⟨_, _, _, rfl, rfl, hb.1, hb.2.2.1, hb.2.2.2, lim_llt1 hb.2.1, new_strs R k⟩
    · cases e
  · cases e
theorem mg_join : MtR X "str.join" (rMtR X.K gJoin) := by
  intro pins s σ H x xs v us Q I rx rxs ⟨ι, M, d, ds, r, R, hd, hds, e, k⟩
  unfold gJoin at e
  split at e
  · simp only [Option.bind_eq_some_iff] at e
    obtain ⟨es, e1, zs, e2, e3⟩ := e
    split at e3
    · rename_i hb
      cases e3
      cases hd
      obtain ⟨w, rfl, hw⟩ := one_ hds
      obtain ⟨p, ys, rfl, hq, t⟩ := asS_ok R hw e1
      cases strsO_ok t e2
      exact mt_join pins s σ H _ _ v us Q I rx rxs ⟨_, p, zs, rfl, rfl, hq, hb, k _ H (Same.refl H) (.v (.str _)) trivial⟩
    · cases e3
  · cases e
end
/-! d.get(k), d.get(k, x), d.update(e) -/
def mGet1 (mo : DS → DM → Res DV) (mk : DE) : DE := fun δ M => (mo δ M).bind fun d M1 => if (asD M1 (.v d)).isSome = true then (mk δ M1).bind fun k M2 => match asD M2 (.v d), keyOf k with
  | some kvs, some k => .ok (.v ((valD kvs k).getD .non)) M2
  | _, _ => .bad
  else .bad
def mGet2 (mo : DS → DM → Res DV) (mk : DE) (mx : DS → DM → Res DV) : DE := fun δ M => (mo δ M).bind fun d M1 => if (asD M1 (.v d)).isSome = true then (mk δ M1).bind fun k M2 => (mx δ M2).bind fun x M3 => match asD M3 (.v d), keyOf k with
  | some kvs, some k => .ok (.v ((valD kvs k).getD x)) M3
  | _, _ => .bad
  else .bad
def notObj (n : Nat) : RV → Bool
  | .v (.obj m) => decide (m ≠ n)
  | _ => true
def mUpd (mo : DS → DM → Res DV) (me : DE) : DE := fun δ M => (mo δ M).bind fun d M1 => if (asD M1 (.v d)).isSome = true then (me δ M1).bind fun e M2 => match dicAt M2 d, asD M2 e with
  | some (n, kvs), some more => if notObj n e = true ∧ kvs.length + more.length ≤ LIM then .ok (.v .non) (M2.set n (.dic false (mergeD kvs more))) else .bad
  | _, _ => .bad
  else .bad
section
variable {X : Cx} {W : WX} {o e f : Expr} {apos cpos : Pos} {mo mx : DS → DM → Res DV} {mk me : DE}
theorem isD_ok {K : PySem.W.Frag} {ι : List Addr} {H : Hp} {M : DM} {d : DV} {v : V} (R : Rep K ι H M) (h : VR K ι H d v) (e : (asD M (.v d)).isSome = true) : ∃ a, v = .ref a ∧ IsD H a := by
  obtain ⟨kvs, ek⟩ := Option.isSome_iff_exists.mp e
  obtain ⟨a, es, rfl, rd, _⟩ := asD_ok R (.v h) ek
  exact ⟨a, rfl, .inl ⟨es, rd⟩⟩
theorem iv_get1 (hu : X.A.units + 1 < cLine) (ho : PE X o (tIv X.K W mo)) (he : PE X e (tI X.K W mk)) (m : M1 X o "get" apos e cpos) : PE X (.Call (.Attribute o "get" apos) [e] [] cpos) (tI X.K W (mGet1 mo mk)) := pe_of (pe_dget1 hu ho he m) fun σ H Q ⟨ι, δ, M, hs, R, h⟩ => by
  refine ⟨ι, δ, M, hs, R, (Post.bind early_E hs R h).imp ?_⟩
  rintro v H1 ⟨d, ι1, M1, A1, hs1, R1, hd, h1⟩
  have hd : VR X.K ι1 H1 d v := hd
  split at h1
  · rename_i hi
    obtain ⟨a, rfl, isd⟩ := isD_ok R1 hd hi
    refine ⟨a, rfl, isd, ι1, δ, M1, hs1, R1, (Post.bind early_E hs1 R1 h1).imp ?_⟩
    rintro w H2 ⟨k, ι2, M2, A2, hs2, R2, hk, h2⟩
    split at h2
    · rename_i kvs key ed ek
      have hd2 : VR X.K ι2 H2 d (.ref a) := VR.aft R1 A2 hd
      obtain ⟨a', es, e1, rd, t⟩ := asD_ok R2 (.v hd2) ed
      cases e1
      cases keyOf_ok hk.1 ek
      refine ⟨_, dget_rd rd key, ?_⟩
      cases ev : valD kvs key with
      | none =>
        have q := valD_ok t key
        rw [ev] at q
        rw [q]
        rw [ev] at h2
        exact Post.ret h2 R2 ⟨.v .non, trivial⟩
      | some dd =>
        obtain ⟨u, e1, e2⟩ := valD_some t ev
        rw [e1]
        rw [ev] at h2
        exact Post.ret h2 R2 ⟨.v e2, trivial⟩
    · exact h2.elim
  · exact h1.elim
theorem iv_get2 (hu : X.A.units + 1 < cLine) (ho : PE X o (tIv X.K W mo)) (he : PE X e (tI X.K W mk)) (hf : PE X f (tIv X.K W mx)) (m : M2 X o "get" apos e f cpos) : PE X (.Call (.Attribute o "get" apos) [e, f] [] cpos) (tI X.K W (mGet2 mo mk mx)) := pe_of (pe_dget2 hu ho he hf m) fun σ H Q ⟨ι, δ, M, hs, R, h⟩ => by
  refine ⟨ι, δ, M, hs, R, (Post.bind early_E hs R h).imp ?_⟩
  rintro v H1 ⟨d, ι1, M1, A1, hs1, R1, hd, h1⟩
  have hd : VR X.K ι1 H1 d v := hd
  split at h1
  · rename_i hi
    obtain ⟨a, rfl, isd⟩ := isD_ok R1 hd hi
    refine ⟨a, rfl, isd, ι1, δ, M1, hs1, R1, (Post.bind early_E hs1 R1 h1).imp ?_⟩
    rintro w H2 ⟨k, ι2, M2, A2, hs2, R2, hk, h2⟩
    refine ⟨ι2, δ, M2, hs2, R2, (Post.bind early_E hs2 R2 h2).imp ?_⟩
    rintro z H3 ⟨x, ι3, M3, A3, hs3, R3, hx, h3⟩
    split at h3
    · rename_i kvs key ed ek
      have hd2 : VR X.K ι3 H3 d (.ref a) := VR.aft R2 A3 (VR.aft R1 A2 hd)
      obtain ⟨a', es, e1, rd, t⟩ := asD_ok R3 (.v hd2) ed
      cases e1
      cases keyOf_ok hk.1 ek
      refine ⟨_, dget_rd rd key, ?_⟩
      cases ev : valD kvs key with
      | none =>
        have q := valD_ok t key
        rw [ev] at q
        rw [q]
        rw [ev] at h3
        exact Post.ret h3 R3 ⟨.v hx, trivial⟩
      | some dd =>
        obtain ⟨u, e1, e2⟩ := valD_some t ev
        rw [e1]
        rw [ev] at h3
        exact Post.ret h3 R3 ⟨.v e2, trivial⟩
    · exact h3.elim
  · exact h1.elim
theorem iv_upd (ho : PE X o (tIv X.K W mo)) (he : PE X e (tI X.K W me)) (m : M1 X o "update" apos e cpos) : PE X (.Call (.Attribute o "update" apos) [e] [] cpos) (tI X.K W (mUpd mo me)) := pe_of (pe_dupd ho he m) fun σ H Q ⟨ι, δ, M, hs, R, h⟩ => by
  refine ⟨ι, δ, M, hs, R, (Post.bind early_E hs R h).imp ?_⟩
  rintro v H1 ⟨d, ι1, M1, A1, hs1, R1, hd, h1⟩
  have hd : VR X.K ι1 H1 d v := hd
  split at h1
  · rename_i hi
    obtain ⟨a, rfl, isd⟩ := isD_ok R1 hd hi
    refine ⟨a, rfl, isd, ι1, δ, M1, hs1, R1, (Post.bind early_E hs1 R1 h1).imp ?_⟩
    rintro w H2 ⟨e, ι2, M2, A2, hs2, R2, he, h2⟩
    split at h2
    · rename_i n kvs more ed ee
      split at h2
      · rename_i hb
        have hd2 : VR X.K ι2 H2 d (.ref a) := VR.aft R1 A2 hd
        obtain ⟨a', es, e1, hn, g, t⟩ := dicAt_ok R2 hd2 ed
        cases e1
        obtain ⟨b, ms, rfl, rd, tm⟩ := asD_ok R2 he.1 ee
        have ne : a ≠ b := fun z => by
          subst z
          have he1 := he.1
          cases he1 with
          | lst nn _ _ => exact nn (List.mem_of_getElem? hn)
          | dic nn _ _ => exact nn (List.mem_of_getElem? hn)
          | v x => cases x with
            | tup _ _ => simp [asD] at ee
            | glo _ => simp [asD] at ee
            | exn => simp [asD] at ee
            | scr _ => simp [asD] at ee
            | @obj m _ hm =>
              have e : m = n := by
                obtain ⟨l1, e1⟩ := List.getElem?_eq_some_iff.mp hm
                obtain ⟨l2, e2⟩ := List.getElem?_eq_some_iff.mp hn
                exact (List.getElem_inj R2.nd).mp (e1.trans e2.symm)
              exact of_decide_eq_true (show decide (m ≠ n) = true from hb.1) e
        obtain ⟨A, R'⟩ := wrote (o := .dic false (mergeD kvs more)) R2 hn g (fun _ _ z => by cases z) ⟨mergeK es ms, rfl, FR.merge tm t⟩
        exact ⟨b, es, ms, rfl, ne, g, rd, lim_line (by rw [← FR.length t, ← FR.length tm]; exact hb.2), h2 ι2 _ _ A R' ⟨.v .non, trivial⟩⟩
      · exact h2.elim
    · exact h2.elim
  · exact h1.elim
end
/-! raise -/
abbrev ExSpec := List (Str × Sum DV Nat)
def exF (sp : ExSpec) (ds : List DV) : Option (List (Str × DV)) := mapO (fun p => match p.2 with
  | .inl d => some (p.1, d)
  | .inr i => (ds[i]?).map fun d => (p.1, d)) sp
/-- C(..) is an error that bears these fields -/
def RaiseOk (X : Cx) (C : Str) (n : Nat) (sp : ExSpec) : Prop := ∀ (e : Expr) (es : List Expr) (p pos : Pos) (ta : TA), PA X (e :: es) ta → starEach (e :: es) X.env = (false, eval e X.env) :: starEach es X.env → (backTo pos (starEach es X.env)).any (·.1) = false →
  L2N.PMk X (.Call (.Name C p) (e :: es) [] pos) (fun σ H Q => ta σ H fun vs H1 => vs.length = n ∧ ∀ (fs : List (Str × V)), (∀ ι ds out, VRs X.K ι H1 ds vs → exF sp ds = some out → FR X.K ι H1 out fs) → ∀ d H', Same H1 H' → H' d = some (.xd fs) → Q (.ref (He.ga X.K C)) (some d) H')
def mRaise (C : Str) (n : Nat) (sp : ExSpec) (ms : DA) : DSt := fun δ M => thenE δ (ms δ M) fun ds M1 => if ds.length = n then match exF sp ds with
  | some fs => .exc ⟨C, fs⟩ δ M1
  | none => .bad
  else .bad

end
end Lk
end

section
set_option Elab.async false
set_option linter.all false
set_option maxRecDepth 100000
set_option maxHeartbeats 4000000
namespace Lk
open PySem PySem.Spec PyProof.Rows L2
noncomputable section
variable [Tbl] [Lnk]
/-! ## IV: an own error made where nothing is handled: its context is None -/
section
variable {X : Cx} {x : Str} {C fI : Addr} {k : Nat} {fd : FuncData} {ps : List Str} {sp : Sp} {ds : List Value} {dvs : List V} {e : Expr} {es : List Expr} {ta : TA} {p pos : Pos} {CX : CXT}
theorem pmk_new (T : OexC X.K C) (iC : PySem.W.findIn X.K (.ref C) "__init__" = some (some (.ref fI))) (tI : PySem.W.typeIn X.K (.ref fI) = some (.type "function")) (fn : FnOk X.prog X.w X.K X.mg X.base CX k fI fd ps sp) (hr : Room (k + 1) X.A) (hb : L2.Binds X.K fd ps ds) (hd : Vals dvs ds)
    (quiet : Passes CX X (fun _ _ _ => False)) (hg : Gl X x) (hm : X.mg x = some (.ref C)) (ha : PA X (e :: es) ta) (hdb : (x == ("__debug__" : Str)) = false := by decide) (he : starEach (e :: es) X.env = (false, eval e X.env) :: starEach es X.env := by rfl) (hpl : (backTo pos (starEach es X.env)).any (·.1) = false := by rfl) :
    L2N.PMk X (.Call (.Name x p) (e :: es) [] pos) (tMkO C sp dvs ta) := fun pins s σ H Q I h => by
  obtain ⟨_, _, _, _, bm, _, _, _, _, _, _, _, _, _, _, there, refs⟩ := T.cls
  refine wpAny_Call_Name_kw (ld_glob I hg hm (PySem.W.callWith_K (h₀ := X.base) I.ok.mod.kin T.kC (thn (ha.run pos pins s σ H _ I h) fun us s1 ⟨vs, H1, J, vals, few, want⟩ => ⟨J.kIn, ?_⟩) he hpl) hdb)
  show wpAny _ _ (call (.ref C) us) _ _ _
  obtain ⟨h1, gens, drawn, toks, os⟩ := s1
  generalize hn : h1.objs.size + 1 = n
  have le : h1.objs.size ≤ n := by omega
  have none1 : H1 n = none := J.hok.fresh le
  have old : ∀ b o, h1.get? b = some o → ((h1.push (PySem.W.kdv_tup us)).push (PySem.HandSPX.excO C h1.objs.size)).get? b = some o := fun b o z => Heap.get?_push_of_some _ (Heap.get?_push_of_some _ z)
  have here : ((h1.push (PySem.W.kdv_tup us)).push (PySem.HandSPX.excO C h1.objs.size)).get? n = some (PySem.HandSPX.excO C h1.objs.size) := by subst hn; heap_get
  have J2 : Inv X pins σ (upd H1 n (exo n C none)) ⟨(h1.push (PySem.W.kdv_tup us)).push (PySem.HandSPX.excO C h1.objs.size), gens, drawn, toks, os⟩ := J.laid (t' := toks) (a := n) (o := exo n C none) (h' := (h1.push (PySem.W.kdv_tup us)).push (PySem.HandSPX.excO C h1.objs.size)) old le (exo_ok here)
  have all : Vals (V.ref n :: (vs ++ dvs)) (Value.ref n :: (us ++ ds)) := .cons rfl (vals.append hd)
  have asked := want n none1
  have len : (Value.ref n :: us ++ ds).length = ps.length := all.length.symm.trans (fn.len _ _ _ _ asked)
  have small : us.length ≤ sizeLine := by rw [← Paired.length vals, sizeLine_eq]; omega
  subst hn
  refine wpAny_call (PySem.HandSPX.call_own PySem.F.excBase_ValueError (fun Y => PySem.HandSPX.refsVE_contains Y bm refs) (J.kIn _ _ there) (PySem.W.looks_findIn J.kIn iC) (fun self => PySem.W.bind_fn J.kIn self tI) small (codeAny_mono
    (fn.run _ X.stack _ _ ⟨Value.ref (h1.objs.size + 1) :: us, []⟩ _ _ _ (fun _ _ _ => False) (hr.make C us []) (J2.env0.make C us []) (hb _ (Value.ref (h1.objs.size + 1) :: us) J2.kIn len) all asked) fun r s' done => ?_))
  match r, done with
  | .error er, done => exact quiet pins σ _ _ er s' J2 done
  | .ok (.ret u), ⟨v, H2, os2, bare, un, hok, rv, ev, d, fs, ea, ed, nd, q⟩ =>
    subst ev
    obtain ⟨h2, g2, d2, t2, os'⟩ := s'
    obtain ⟨t0, G, JG, kG, ge, hoe, na⟩ := mk_end0 (d2 := d2) (t2 := t2) J le old un hok os2 bare ea ed nd
    exact ⟨rv, _, _, _, ⟨G, g2, d2, t2, os'⟩, _, .ref C, some d, rfl, JG, kG, ge, hoe, ⟨rfl, rfl, fun vs z => by cases z; rfl⟩, rfl, rfl, na, rfl, bare, raises_own T.exC T.tyC, q⟩
  | .ok .next, done => exact False.elim done
  | .ok .brk, done => exact False.elim done
  | .ok .cont, done => exact False.elim done
end

end
end Lk
end

section
set_option Elab.async false
set_option linter.all false
set_option maxRecDepth 100000
set_option maxHeartbeats 4000000
namespace Lk
open PySem PySem.Spec PyProof.Rows L2
noncomputable section
variable [Tbl] [Lnk]
/-! ## IV: own functions, comprehensions, raise -/
def startD (n : Nat) (ds : List DV) : DS := ds.map some ++ List.replicate (n - ds.length) none
/-- a def's body, run -/
def fnRun (n : Nat) (m : DSt) : Run := fun ds M => match m (startD n ds) M with
  | .nx _ M1 => .ok (.v .non) M1
  | .ret r M1 => .ok r M1
  | .exc e _ M1 => .exc e M1
  | _ => .bad
theorem SR.start {K : PySem.W.Frag} {ι : List Addr} {H : Hp} {N : List Str} : ∀ {ds : List DV} {vs : List V}, VRs K ι H ds vs → SR K ι H (startD N.length ds) (L2.start N vs) := fun {ds vs} h => by
  unfold startD L2.start
  rw [h.length]
  have z : ∀ n : Nat, SR K ι H (List.replicate n none) (List.replicate n none) := fun n => by
    induction n with
    | zero => exact .nil
    | succ n ih => exact .cons (fun x e => by cases e) ih
  have q : ∀ {ds : List DV} {vs : List V}, VRs K ι H ds vs → SR K ι H (ds.map some) (vs.map some) := fun h => by
    induction h using VRs.rec (motive_1 := fun _ _ _ => True) with
    | nil => exact .nil
    | cons r t _ ih => exact .cons (fun x e => by cases e; exact ⟨_, rfl, r⟩) ih
    | _ => trivial
  have app : ∀ {as : DS} {bs : L2.St}, SR K ι H as bs → SR K ι H (as ++ List.replicate (N.length - vs.length) none) (bs ++ List.replicate (N.length - vs.length) none) := fun h => by
    induction h with
    | nil => exact z _
    | cons h _ ih => exact .cons h ih
  exact app (q h)
section
variable {P : Program} {w : World} {K : PySem.W.Frag} {mg : Str → Option Value} {base : Heap} {f : Addr} {fd : FuncData} {k : Nat}
theorem okI {x qual : Str} {params : Arguments} {body : List Stmt} {scope : Scope} {dvs : List V} {kws : List (Str × V)} {N ps : List Str} {m : DSt} (F : FunD K x qual params body scope dvs kws f fd) (S : FnScope N ps scope)
    (walk : ∀ (cdv : Value) (A : Around) (outer : List Env) (s : Shared) (H : Hp) (E : XK), Room k (cxOf (L2N.CX P w) P w K mg base N qual scope f cdv A outer s H E).A → (cxOf (L2N.CX P w) P w K mg base N qual scope f cdv A outer s H E).A.guards = some [] →
      L2N.Takes (cxOf (L2N.CX P w) P w K mg base N qual scope f cdv A outer s H E) (fun c d _ H => E c d H) →
      PassesOwn (model P w) (cxOf (L2N.CX P w) P w K mg base N qual scope f cdv A outer s H E).A (cxOf (L2N.CX P w) P w K mg base N qual scope f cdv A outer s H E).env (cxOf (L2N.CX P w) P w K mg base N qual scope f cdv A outer s H E).xe →
      PSs (cxOf (L2N.CX P w) P w K mg base N qual scope f cdv A outer s H E) body (tIs K (fun c d _ H => E c d H) m)) : FnG P w K mg base (L2N.CX P w) (k + 1) f fd ps (spI K ps.length (fnRun N.length m)) :=
  okG F S (fun vs H Q E h => h.1) fun cdv A outer s H vs Q E hr hG ⟨hl, ι, M, ds, R, hd, h⟩ => by
    refine ⟨_, walk cdv A outer s H E hr (show (A.deeper _).guards = some [] from hG) (L2N.takes_of rfl rfl rfl rfl) (passes_of rfl), ι, startD N.length ds, M, SR.start hd, R, ?_⟩
    unfold fnRun at h
    cases e : m (startD N.length ds) M with
    | nx δ M1 => rw [e] at h; exact fun ι' σ' H' A' R' s' => h ι' .non H' A' R' ⟨.v .non, trivial⟩
    | ret r M1 => rw [e] at h; exact fun ι' v H' A' R' r' f' => h ι' v H' A' R' ⟨r', f'⟩
    | brk δ M1 => rw [e] at h; exact h.elim
    | ct δ M1 => rw [e] at h; exact h.elim
    | exc x δ M1 => rw [e] at h; exact fun ι' c d σ' H' A' R' s' x' => h ι' c d H' A' R' x'
    | bad => rw [e] at h; exact h.elim
/-- an own function's fact from its promise -/
theorem fact_of {X : Cx} {k n : Nat} {f : Addr} {fd : FuncData} {ps : List Str} {run : Run} (G : FnG X.prog X.w X.K X.mg X.base (L2N.CX X.prog X.w) k f fd ps (spI X.K ps.length run)) (b : L2.Binds X.K fd ps []) (h : ps.length = n) : FnFact X k f n run [] :=
  ⟨fd, ps, [], [], G, b, fun _ _ => .nil, .nil, by simpa using h.symm⟩
theorem fact_dflt {X : Cx} {k n : Nat} {f : Addr} {fd : FuncData} {ps : List Str} {run : Run} {dvs : List DV} {vds : List V} {ds : List Value} (G : FnG X.prog X.w X.K X.mg X.base (L2N.CX X.prog X.w) k f fd ps (spI X.K ps.length run)) (b : L2.Binds X.K fd ps ds) (hv : ∀ ι H, VRs X.K ι H dvs vds) (hd : Vals vds ds) (h : n + dvs.length = ps.length) : FnFact X k f n run dvs :=
  ⟨fd, ps, ds, vds, G, b, hv, hd, h⟩
end
/-! what is new and no longer held is forgotten at a function's end -/
mutual
def closed (n : Nat) : DV → Bool
  | .obj m => decide (m < n)
  | .tup ds => closeds n ds
  | _ => true
def closeds (n : Nat) : List DV → Bool
  | [] => true
  | d :: ds => closed n d && closeds n ds
end
def closedF {κ : Type} (n : Nat) (fs : List (κ × DV)) : Bool := fs.all fun p => closed n p.2
def closedO (n : Nat) : DObj → Bool
  | .lst ds => closeds n ds
  | .dic _ kvs => closedF n kvs
  | .ins _ fs => closedF n fs
def closedR (n : Nat) : RV → Bool
  | .v d => closed n d
  | .lst ds => closeds n ds
  | .dic kvs => closedF n kvs
def gc (n : Nat) (r : Res RV) : Res RV := match r with
  | .ok r M => if closedR n r = true ∧ (M.take n).all (closedO n) = true then .ok r (M.take n) else .ok r M
  | r => r
section
variable {K : PySem.W.Frag} {W : WX} {ι new : List Addr} {H : Hp} {M : DM} {n : Nat}
mutual
theorem VR.less (hn : ι.length = n) : ∀ {d : DV} {v : V}, VR K (ι ++ new) H d v → closed n d = true → VR K ι H d v
  | _, _, .non, _ => .non
  | _, _, .bl b, _ => .bl b
  | _, _, .int b, _ => .int b
  | _, _, .str b, _ => .str b
  | _, _, .tup q t, e => .tup q (VRs.less hn t e)
  | _, _, .obj (n := m) h, e => .obj (by rw [← h]; exact (List.getElem?_append_left (by rw [hn]; exact of_decide_eq_true e)).symm)
  | _, _, .glo b, _ => .glo b
  | _, _, .ty b, _ => .ty b
  | _, _, .exn, _ => .exn
  | _, _, .scr h, _ => .scr h
theorem VRs.less (hn : ι.length = n) : ∀ {ds : List DV} {vs : List V}, VRs K (ι ++ new) H ds vs → closeds n ds = true → VRs K ι H ds vs
  | _, _, .nil, _ => .nil
  | _, _, .cons h t, e => .cons (VR.less hn h (Bool.and_eq_true_iff.mp e).1) (VRs.less hn t (Bool.and_eq_true_iff.mp e).2)
end
theorem FR.less {κ : Type} (hn : ι.length = n) : ∀ {ds : List (κ × DV)} {vs : List (κ × V)}, FR K (ι ++ new) H ds vs → closedF n ds = true → FR K ι H ds vs := fun h e => by
  induction h with
  | nil => exact .nil
  | cons h _ ih =>
    have e := Bool.and_eq_true_iff.mp (show (_ && _) = true from e)
    exact .cons ⟨h.1, h.2.less hn e.1⟩ (ih e.2)
theorem closeds_int (n : Nat) : ∀ is : List Int, closeds n (is.map .int) = true
  | [] => rfl
  | _ :: is => by rw [List.map_cons]; exact closeds_int n is
theorem OR.less (hn : ι.length = n) {o : DObj} {u : HO} (h : OR K (ι ++ new) H o u) (e : closedO n o = true) : OR K ι H o u := by
  cases o with
  | lst ds => obtain ⟨xs, e1, r⟩ := h; exact ⟨xs, e1, r.less hn e⟩
  | dic lk kvs => cases lk with
    | false => obtain ⟨xs, e1, r⟩ := h; exact ⟨xs, e1, FR.less hn r e⟩
    | true => obtain ⟨o, xs, e1, r⟩ := h; exact ⟨o, xs, e1, FR.less hn r e⟩
  | ins c fs => obtain ⟨o, xs, e1, r⟩ := h; exact ⟨o, xs, e1, FR.less hn r e⟩
theorem Rep.less (hn : ι.length = n) (R : Rep K (ι ++ new) H M) (x : Lnk.inv K ι H) (e : (M.take n).all (closedO n) = true) : Rep K ι H (M.take n) := by
  have le : n ≤ M.length := by rw [← R.len, List.length_append]; omega
  refine ⟨hn, (List.nodup_append.mp R.nd).1, fun m hm => by rw [DM.take_get le hm]; exact R.fl m (Nat.lt_of_lt_of_le hm le), fun m a o h1 h2 => ?_, R.tb, x⟩
  have lt : m < ι.length := (List.getElem?_eq_some_iff.mp h1).1
  have h3 : M[m]? = some o := (DM.take_get le (hn ▸ lt)).symm.trans h2
  obtain ⟨u, g, q⟩ := R.at_ m a o (by rw [List.getElem?_append_left lt]; exact h1) h3
  exact ⟨u, g, q.less hn (DM.all_at e h2)⟩
theorem Post.gc {σ : L2.St} {r : Res RV} {Q : VK} (R : Rep K ι H M) (h : Post K W σ ι H (relE K) (gc M.length r) Q) : Post K W σ ι H (relE K) r Q := by
  cases r with
  | exc e M' => exact h
  | bad => exact h
  | ok r M' =>
    unfold Lk.gc at h
    dsimp only at h
    split at h
    · rename_i c
      intro ι' v H' A R' ⟨r', f⟩
      obtain ⟨new, rfl, hnew⟩ := A.ext
      have A' : Aft ι H ι H' := ⟨⟨[], by simp, by simp⟩, A.fr0, A.th, A.fz⟩
      refine h ι v H' A' (Rep.less R.len R' (R.xaft A') c.2) ⟨?_, f⟩
      cases r' with
      | v d => exact .v (d.less R.len c.1)
      | lst n g t => exact .lst (fun m => n (List.mem_append_left _ m)) g (t.less R.len c.1)
      | dic n g t => exact .dic (fun m => n (List.mem_append_left _ m)) g (FR.less R.len t c.1)
    · exact h
def gcRun (run : Run) : Run := fun ds M => gc M.length (run ds M)
theorem okGc {P : Program} {w : World} {mg : Str → Option Value} {base : Heap} {f : Addr} {fd : FuncData} {k n : Nat} {CX : CXT} {ps : List Str} {run : Run} (G : FnG P w K mg base CX k f fd ps (spI K n run)) : FnG P w K mg base CX k f fd ps (spI K n (gcRun run)) where
  len := fun vs H Q E ⟨hl, ι, M, ds, R, hd, h⟩ => G.len vs H Q E ⟨hl, ι, M, ds, R, hd, Post.gc R h⟩
  run := fun A outer s H args us vs Q E hr hG e b r ⟨hl, ι, M, ds, R, hd, h⟩ => G.run A outer s H args us vs Q E hr hG e b r ⟨hl, ι, M, ds, R, hd, Post.gc R h⟩
end
/-! comprehensions -/
section
variable {X : Cx} {W : WX} {elt tg iter kx vx e : Expr} {ifs : List Expr} {scope : Scope} {own : List (Str × Nat)} {pos spos py cpos : Pos} {mi : DI} {t : Tg} {mt : DT} {me mk : DS → DM → Res DV} {i n : Nat} {y C : Str} {sp : ExSpec} {es : List Expr} {ms : DA}
abbrev InBlk (X : Cx) (scope : Scope) (p : Cx → Prop) : Prop := ∀ (s : Shared) (H : Hp) (C : Addr) (cl : List (Str × Addr)) (fp : List Addr), p (X.blk s H scope (compEnvC scope cl C X.env) fp)
def mYes : DT := fun _ M => .ok true M
theorem its_nil : PTs X [] (tIt X.K W mYes) := ⟨fun pins s σ H Q I ⟨ι, δ, M, hs, R, h⟩ => pts_nil.run pins s σ H Q I (h ι true H (Aft.refl ι H) R rfl)⟩
theorem its_one {c : Expr} {m : DT} (h : PT X c (tIt X.K W m)) : PTs X [c] (tIt X.K W m) := pts_one h
theorem iv_lc (hc : X.calm = true) (hN : X.N.Nodup) (hi : PI X tg iter (tG X.K W (relI X.K) mi)) (ok : BlkOk X.N X.env.scope scope own)
    (hg : InBlk X scope fun B => PG B tg (tGn X.K t)) (ht : InBlk X scope fun B => PTs B ifs (tIt X.K W0 mt)) (he : InBlk X scope fun B => PE B elt (tIv X.K W0 me)) (hs : ∀ x, foldedSetIterable iter X.env x = pure x) :
    PE X (.ListComp elt [⟨tg, iter, ifs, 0⟩] scope pos) (tI X.K W (mLc mi t mt me (own.map (·.2)))) := pe_of (pe_lc hc hN hi ok hg ht he hs) fun _ _ _ => tI_lc
theorem iv_dc (hc : X.calm = true) (hN : X.N.Nodup) (hi : PI X tg iter (tG X.K W (relI X.K) mi)) (ok : BlkOk X.N X.env.scope scope own)
    (hg : InBlk X scope fun B => PG B tg (tGn X.K t)) (ht : InBlk X scope fun B => PTs B ifs (tIt X.K W0 mt)) (hk : InBlk X scope fun B => PE B kx (tIv X.K W0 mk)) (he : InBlk X scope fun B => PE B vx (tIv X.K W0 me)) (hs : ∀ x, foldedSetIterable iter X.env x = pure x) :
    PE X (.DictComp kx vx [⟨tg, iter, ifs, 0⟩] scope pos) (tI X.K W (mDc mi t mt mk me (own.map (·.2)))) := pe_of (pe_dc hc hN hi ok hg ht hk he hs) fun _ _ _ => tI_dc
theorem tI_set {K : PySem.W.Frag} {te : TE} {m : DE} (k : ∀ σ H Q, tI K W m σ H Q → te σ H Q) {D : Ends} {σ : L2.St} {H : Hp} : tIs K W (mSet i (mV m)) D σ H → tAsg te (gName i) D σ H := fun ⟨ι, δ, M, hs, R, h⟩ => by
  refine k _ _ _ ⟨ι, δ, M, hs, R, ?_⟩
  unfold mSet mV at h
  cases e : m δ M with
  | bad => rw [e] at h; exact h
  | exc x M' => rw [e] at h; exact fun ι' c d H' A R' x => h ι' c d σ H' A R' (hs.aft R A) x
  | ok r M' =>
    rw [e] at h
    intro ι' v H' A R' ⟨r1, f⟩
    obtain ⟨ι2, A2, R2, v2⟩ := mat_ok A R' r1 f
    exact h ι2 _ H' A2 R2 ((hs.aft R A2).set i v2)
theorem is_setLc (hc : X.calm = true) (hN : X.N.Nodup) (hy : X.N[i]? = some y) (hyl : X.env.scope.names.lookup y = some .local)
    (hsw : swapsWith (.ListComp elt [⟨tg, iter, ifs, 0⟩] scope pos) (some (.Name y py)) spos.line X.env = pure true) (hi : PI X tg iter (tG X.K W (relI X.K) mi)) (ok : BlkOk X.N X.env.scope scope own)
    (hg : InBlk X scope fun B => PG B tg (tGn X.K t)) (ht : InBlk X scope fun B => PTs B ifs (tIt X.K W0 mt)) (he : InBlk X scope fun B => PE B elt (tIv X.K W0 me)) (hs : ∀ x, foldedSetIterable iter X.env x = pure x) :
    PS X (.Assign [.Name y py] (.ListComp elt [⟨tg, iter, ifs, 0⟩] scope pos) spos) (tIs X.K W (mSet i (mV (mLc mi t mt me (own.map (·.2)))))) := ps_of (ps_setLc hc hN hy hyl hsw hi ok hg ht he hs) fun _ _ _ => tI_set fun _ _ _ => tI_lc
theorem is_raise (hc : X.calm = true) (tk : L2N.Takes X W) (F : RaiseOk X C n sp) (ha : PA X (e :: es) (tIa X.K W ms)) (he : starEach (e :: es) X.env = (false, eval e X.env) :: starEach es X.env) (hpl : (backTo cpos (starEach es X.env)).any (·.1) = false) :
    PS X (.Raise (some (.Call (.Name C py) (e :: es) [] cpos)) none pos) (tIs X.K W (mRaise C n sp ms)) := ps_of (L2N.ps_raise hc tk (F e es py cpos _ ha he hpl)) fun D σ H ⟨ι, δ, M, hs, R, h⟩ => by
  refine ⟨ι, δ, M, hs, R, (PostS.bindE hs R h).imp ?_⟩
  rintro vs H1 ⟨ds, ι1, M1, A1, hs1, R1, hx, h1⟩
  split at h1
  · rename_i hn
    split at h1
    · rename_i fs ef
      refine ⟨by rw [← VRs.length hx]; exact hn, ?_⟩
      intro fs' hf d H' S hd
      exact h1 ι1 _ (some d) σ H' (Aft.same S) (R1.same S) (SR.aft R1 (Aft.same S) hs1) ⟨rfl, d, fs', rfl, hd, FR.aft R1 (Aft.same S) (hf ι1 ds fs hx ef)⟩
    · exact h1.elim
  · exact h1.elim
end

end
end Lk
end

section
set_option Elab.async false
set_option linter.all false
set_option maxRecDepth 100000
set_option maxHeartbeats 4000000
namespace Lk
open PySem PySem.Spec PyProof.Rows L2
noncomputable section
variable [Tbl] [Lnk]
/-! ## IV: a, b = x, y; op=; dict displays; repr -/
def mPars (is : List Nat) (ms : DA) : DSt := fun δ M => thenE δ (ms δ M) fun ds M1 => if ds.length = is.length then .nx (setsD δ (is.zip ds)) M1 else .bad
def rIp (K : PySem.W.Frag) (g : DM → DV → RV → Option (DV × DM)) : V → V → Hp → VK → Prop := fun x y H Q => ∃ ι M d r q M', Rep K ι H M ∧ VR K ι H d x ∧ RVR K ι H r y ∧ g M d r = some (q, M') ∧ ∀ v H', Aft ι H ι H' → Rep K ι H' M' → VR K ι H' q v → Q v H'
def gIadd (M : DM) (d : DV) (r : RV) : Option (DV × DM) := match d, r with
  | .int a, .v (.int b) => some (.int (a + b), M)
  | .str a, .v (.str b) => if a.length + b.length ≤ LIM then some (.str (a ++ b), M) else none
  | d, r => match lstAt M d, asK M r with
    | some (n, es), some ds => if es.length + ds.length ≤ LIM then some (d, M.set n (.lst (es ++ ds))) else none
    | _, _ => none
def gIsub (M : DM) (d : DV) (r : RV) : Option (DV × DM) := match d, r with
  | .int a, .v (.int b) => some (.int (a - b), M)
  | _, _ => none
def mAug (i : Nat) (g : DM → DV → RV → Option (DV × DM)) (m : DE) : DSt := fun δ M => match δ[i]? with
  | some (some d) => thenE δ (m δ M) fun r M1 => match g M1 d r with
    | some (q, M2) => .nx (δ.set i (some q)) M2
    | none => .bad
  | _ => .bad
def mFldAug (fld : Str → Str → Bool) (f : Str) (g : DM → DV → RV → Option (DV × DM)) (mo : DS → DM → Res DV) (m : DE) : DSt := fun δ M => thenE δ (mo δ M) fun o M1 => match insAt M1 o with
  | some (_, c, fs) => if fld c f = true then match fs.lookup f with
    | some d => thenE δ (m δ M1) fun r M2 => match g M2 d r with
      | some (q, M3) => match insAt M3 o with
        | some (n, c', fs') => if c' = c ∧ fs'.length < 1000 then .nx δ (M3.set n (.ins c (putFD f q fs'))) else .bad
        | none => .bad
      | none => .bad
    | none => .bad
    else .bad
  | none => .bad
/-- o[i] op= e -/
def mAugS (T : Tabs) (g : DM → DV → RV → Option (DV × DM)) (mo mi : DS → DM → Res DV) (m : DE) : DSt := fun δ M => thenE δ (mo δ M) fun o M1 => thenE δ (mi δ M1) fun i M2 => match opIx T M2 (.v o) (.v i) with
  | some (.v d) => thenE δ (m δ M2) fun r M3 => match g M3 d r with
    | some (q, M4) => match setD M4 o i q with
      | some M5 => .nx δ M5
      | none => .bad
    | none => .bad
  | _ => .bad
section
variable {X : Cx} {W : WX} {e : Expr} {m : DE} {pos tpos : Pos} {o : Expr} {f : Str} {mo : DS → DM → Res DV} {g : DM → DV → RV → Option (DV × DM)}
theorem is_par {i j : Nat} {x y : Str} {a b : Expr} {ms : DA} {px py pt : Pos} {kt k2 pt2} (hc : X.calm = true) (hN : X.N.Nodup) (hi : X.N[i]? = some x) (hj : X.N[j]? = some y) (hij : i ≠ j)
    (hx : X.env.scope.names.lookup x = some .local) (hy : X.env.scope.names.lookup y = some .local) (ha : PA X [a, b] (tIa X.K W ms))
    (hw : swappedStores [.Tuple [.Name x px, .Name y py] kt pt] (.Tuple [a, b] k2 pt2) X.env = pure (some [x, y]))
    (hs : swapsWithSole [.Tuple [.Name x px, .Name y py] kt pt] (.Tuple [a, b] k2 pt2) pos.line X.env = pure false) :
    PS X (.Assign [.Tuple [.Name x px, .Name y py] kt pt] (.Tuple [a, b] k2 pt2) pos) (tIs X.K W (mPars [i, j] ms)) := ps_of (ps_par hc hN hi hj hij hx hy ha hw hs) fun D σ H ⟨ι, δ, M, hs, R, h⟩ => by
  refine ⟨ι, δ, M, hs, R, (PostS.bindE hs R h).imp ?_⟩
  rintro v H1 ⟨ds, ι1, M1, A1, hs1, R1, hd, h1⟩
  split at h1
  · rename_i hl
    match ds, hd, hl with
    | [d1, d2], .cons r1 (.cons r2 .nil), _ => exact ⟨_, _, rfl, PostS.nx h1 R1 ((hs1.set i r1).set j r2)⟩
  · exact h1.elim
theorem is_par3 {i j l : Nat} {x y z : Str} {a b c : Expr} {ms : DA} {px py pz pt : Pos} {kt k2 pt2} (hc : X.calm = true) (hN : X.N.Nodup) (hi : X.N[i]? = some x) (hj : X.N[j]? = some y) (hl : X.N[l]? = some z) (hij : i ≠ j) (hil : i ≠ l) (hjl : j ≠ l)
    (hx : X.env.scope.names.lookup x = some .local) (hy : X.env.scope.names.lookup y = some .local) (hz : X.env.scope.names.lookup z = some .local) (ha : PA X [a, b, c] (tIa X.K W ms))
    (hw : swappedStores [.Tuple [.Name x px, .Name y py, .Name z pz] kt pt] (.Tuple [a, b, c] k2 pt2) X.env = pure (some [x, y, z]))
    (hs : swapsWithSole [.Tuple [.Name x px, .Name y py, .Name z pz] kt pt] (.Tuple [a, b, c] k2 pt2) pos.line X.env = pure false) :
    PS X (.Assign [.Tuple [.Name x px, .Name y py, .Name z pz] kt pt] (.Tuple [a, b, c] k2 pt2) pos) (tIs X.K W (mPars [i, j, l] ms)) := ps_of (ps_par3 hc hN hi hj hl hij hil hjl hx hy hz ha hw hs) fun D σ H ⟨ι, δ, M, hs, R, h⟩ => by
  refine ⟨ι, δ, M, hs, R, (PostS.bindE hs R h).imp ?_⟩
  rintro v H1 ⟨ds, ι1, M1, A1, hs1, R1, hd, h1⟩
  split at h1
  · rename_i hl
    match ds, hd, hl with
    | [d1, d2, d3], .cons r1 (.cons r2 (.cons r3 .nil)), _ => exact ⟨_, _, _, rfl, PostS.nx h1 R1 (((hs1.set i r1).set j r2).set l r3)⟩
  · exact h1.elim
/-! op= -/
def IpR (X : Cx) (op : Operator) (g : DM → DV → RV → Option (DV × DM)) : Prop := ∀ (pins : List (Addr × Obj)) (s : Shared) (σ : L2.St) (H : Hp) (x y : V) (u v : Value) (Q : VK), Inv X pins σ H s → RelV x u → RelV y v → rIp X.K g x y H Q → wpAny (model X.prog X.w) X.A (inplaceOp op u v) (EP X pins σ Q) X.xe s
theorem ip_iadd : IpR X .Add gIadd := by
  intro pins s σ H x y u v Q I rx ry ⟨ι, M, d, r, q, M', R, hd, hr, e, k⟩
  unfold gIadd at e
  split at e
  · cases e
    cases hd; cases vr_int hr
    exact iop_add pins s σ H _ _ u v Q I rx ry ⟨_, _, rfl, rfl, k _ _ (Aft.refl ι H) R (.int _)⟩
  · split at e
    · rename_i hl
      cases e
      cases hd; cases vr_str hr
      exact iop_add_str pins s σ H _ _ u v Q I rx ry ⟨_, _, rfl, rfl, lim_line hl, k _ _ (Aft.refl ι H) R (.str _)⟩
    · cases e
  · split at e
    · rename_i n es ds el er
      split at e
      · rename_i hl
        cases e
        obtain ⟨a, xs, rfl, hn, g, t⟩ := lstAt_ok R hd el
        obtain ⟨b, zs, rfl, g2, t2⟩ := asK_ok R hr er
        obtain ⟨A, R'⟩ := wrote (o := .lst (es ++ ds)) R hn g (fun _ _ z => by cases z) ⟨xs ++ zs, rfl, t.append t2⟩
        exact iop_ext pins s σ H _ _ u v Q I rx ry ⟨a, b, xs, zs, rfl, rfl, g, g2, lim_line (by rw [← t.length, ← t2.length]; exact hl), k _ _ A R' (VR.aft R A hd)⟩
      · cases e
    · cases e
theorem ip_isub : IpR X .Sub gIsub := by
  intro pins s σ H x y u v Q I rx ry ⟨ι, M, d, r, q, M', R, hd, hr, e, k⟩
  unfold gIsub at e
  split at e
  · cases e
    cases hd; cases vr_int hr
    exact in_sub pins s σ H _ _ u v Q I rx ry ⟨_, _, rfl, rfl, k _ _ (Aft.refl ι H) R (.int _)⟩
  · cases e
theorem is_aug {i : Nat} {x : Str} {op : Operator} (hN : X.N.Nodup) (hi : X.N[i]? = some x) (hx : Loc X.env.scope x) (he : PE X e (tI X.K W m)) (ho : IpR X op g) (hf : X.fn x = true ∨ X.env.scope.names.lookup x = some .local) :
    PS X (.AugAssign (.Name x tpos) op e pos) (tIs X.K W (mAug i g m)) := ps_of (ps_aug hN hi hx he (ti := rIp X.K g) (fun pins s σ H x y v u Q I r1 r2 h => ho pins s σ H x y v u Q I r1 r2 h) hf) fun D σ H ⟨ι, δ, M, hs, R, h⟩ => by
  unfold mAug at h
  split at h
  · rename_i d ed
    obtain ⟨v, ev, hv⟩ := hs.get ed
    refine ⟨v, ev, ι, δ, M, hs, R, (PostS.bindE hs R h).imp ?_⟩
    rintro y H1 ⟨r, ι1, M1, A1, hs1, R1, hr, h1⟩
    split at h1
    · rename_i q M2 eg
      exact ⟨ι1, M1, d, r, q, M2, R1, hv.aft R A1, hr.1, eg, fun z H2 A2 R2 hz => h1 ι1 _ _ A2 R2 ((hs1.aft R1 A2).set i hz)⟩
    · exact h1.elim
  · exact h.elim
theorem is_fldaug {fld : Str → Str → Bool} {op : Operator} (hF : ∀ c f, fld c f = true → L2.Cls X.K (He.ga X.K c) ∧ NoAttr X.K (He.ga X.K c) f) (ho : PE X o (tIv X.K W mo)) (he : PE X e (tI X.K W m)) (hop : IpR X op g) :
    PS X (.AugAssign (.Attribute o f tpos) op e pos) (tIs X.K W (mFldAug fld f g mo m)) := ps_of (ps_fldaug (rd := rIp X.K g) ho he (fun pins s σ H x y u v Q I r1 r2 h => hop pins s σ H x y u v Q I r1 r2 h)) fun D σ H ⟨ι, δ, M, hs, R, h⟩ => by
  refine ⟨ι, δ, M, hs, R, (PostS.bindE hs R h).imp ?_⟩
  rintro w H1 ⟨o, ι1, M1, A1, hs1, R1, ho, h1⟩
  have ho : VR X.K ι1 H1 o w := ho
  split at h1
  · rename_i n c fs ei
    split at h1
    · rename_i hc
      split at h1
      · rename_i d el
        obtain ⟨a, dx, es, rfl, hn, g1, t⟩ := insAt_ok R1 ho ei
        obtain ⟨v, lv, hv⟩ := valF_ok t el
        refine ⟨a, _, dx, es, v, rfl, g1, (hF c f hc).1, (hF c f hc).2, lv, ι1, δ, M1, hs1, R1, (PostS.bindE hs1 R1 h1).imp ?_⟩
        rintro y H2 ⟨r, ι2, M2, A2, hs2, R2, hr, h2⟩
        split at h2
        · rename_i q M3 eg
          refine ⟨ι2, M2, d, r, q, M3, R2, hv.aft R1 A2, hr.1, eg, fun z H3 A3 R3 hz => ?_⟩
          split at h2
          · rename_i n' c' fs' ei'
            split at h2
            · rename_i hc'
              obtain ⟨rfl, hl⟩ := hc'
              have ho3 : VR X.K ι2 H3 o (.ref a) := (ho.aft R1 A2).aft R2 A3
              obtain ⟨a', dx', es', ea, hn', g', t'⟩ := insAt_ok R3 ho3 ei'
              cases ea
              refine ⟨dx', es', g', by rw [← Paired.length t']; exact hl, ?_⟩
              have P := Aft.put (H := H3) (u := .ins (He.ga X.K c') dx' (putF f z es')) (List.mem_of_getElem? hn') (nz_of g' fun _ _ z => by cases z)
              exact h2 ι2 σ _ (A3.trans R3 P) (R3.put (o := .ins c' (putFD f q fs')) hn' ⟨dx', _, rfl, fr_putF t' hz⟩) ((hs2.aft R2 A3).aft R3 P)
            · exact h2.elim
          · exact h2.elim
        · exact h2.elim
      · exact h1.elim
    · exact h1.elim
  · exact h1.elim
end
/-! {k: v, ..} -/
abbrev DPs := List (DE × (DS → DM → Res DV))
def mPairs : DPs → DS → DM → Res (List (Key × DV))
  | [], _, M => .ok [] M
  | (k, v) :: r, δ, M => (k δ M).bind fun kr M1 => (v δ M1).bind fun d M2 => match keyOf kr with
    | some key => (mPairs r δ M2).bind fun ps M3 => .ok ((key, d) :: ps) M3
    | none => .bad
def mDisp (ps : DPs) : DE := fun δ M => (mPairs ps δ M).bind fun kvs M1 => if kvs.length ≤ 15 then .ok (.dic (mergeD [] kvs)) M1 else .bad
def trsOf (K : PySem.W.Frag) (W : WX) (ps : DPs) : List (TE × TE) := ps.map fun p => (tI K W p.1, tIv K W p.2)
def relP (K : PySem.W.Frag) : RelT (List (Key × DV)) (List (V × V)) := fun _ ι' H' kvs ps => ∃ es : List (Key × V), ps = es.map (fun p => (kV p.1, p.2)) ∧ FR K ι' H' kvs es
theorem early_P {K : PySem.W.Frag} : Early (relP K) := ⟨fun _ _ h => h⟩
section
variable {X : Cx} {W : WX}
theorem tI_pairs {K : PySem.W.Frag} {σ : L2.St} : ∀ (ps : DPs) (H : Hp) (Q : List (V × V) → Hp → Prop) (ι : List Addr) (δ : DS) (M : DM), SR K ι H δ σ → Rep K ι H M → Post K W σ ι H (relP K) (mPairs ps δ M) Q → tPairs (trsOf K W ps) σ H Q
  | [], H, Q, ι, δ, M, hs, R, h => Post.ret h R ⟨[], rfl, .nil⟩
  | (k, v) :: r, H, Q, ι, δ, M, hs, R, h => by
    refine ⟨ι, δ, M, hs, R, (Post.bind early_P hs R h).imp ?_⟩
    rintro x H1 ⟨kr, ι1, M1, A1, hs1, R1, hk, h1⟩
    refine ⟨ι1, δ, M1, hs1, R1, (Post.bind early_P hs1 R1 h1).imp ?_⟩
    rintro y H2 ⟨d, ι2, M2, A2, hs2, R2, hd, h2⟩
    split at h2
    · rename_i key ek
      refine tI_pairs r H2 _ ι2 δ M2 hs2 R2 ((Post.bind early_P hs2 R2 h2).imp ?_)
      rintro qs H3 ⟨kvs, ι3, M3, A3, hs3, R3, ⟨es, rfl, hf⟩, h3⟩
      cases keyOf_ok (hk.1.aft R1 A2) ek
      exact Post.ret h3 R3 ⟨(key, y) :: es, rfl, .cons ⟨rfl, VR.aft R2 A3 hd⟩ hf⟩
    · exact h2.elim
theorem iv_disp {pos : Pos} {keys : List (Option Expr)} {values : List Expr} {ps : DPs} (h : PPs X pos keys values (trsOf X.K W ps)) (hall : keys.all (·.isSome) = true) (hl : keys.length = values.length) (h0 : keys ≠ []) (h15 : keys.length ≤ 15) :
    PE X (.Dict keys values pos) (tI X.K W (mDisp ps)) := pe_of (pe_disp h hall hl h0 h15) fun σ H Q ⟨ι, δ, M, hs, R, h⟩ p hp => by
  have S : Same H (upd H p (.dK [])) := Same.new hp
  have A0 : Aft ι H ι (upd H p (.dK [])) := Aft.same S
  have R0 := R.same S
  have np : p ∉ ι := fun m => R.there m hp
  refine tI_pairs ps _ _ ι δ M (hs.aft R A0) R0 ?_
  unfold mDisp at h
  cases e : mPairs ps δ M with
  | bad => rw [e] at h; exact h
  | exc x M' => rw [e] at h; exact fun ι' c d H' A R' x => h ι' c d H' (A0.trans R0 A) R' x
  | ok kvs M2 =>
    rw [e] at h
    have h : Post X.K W σ ι H (relE X.K) (if kvs.length ≤ 15 then .ok (.dic (mergeD [] kvs)) M2 else .bad) Q := h
    split at h
    · rename_i hl
      rintro ι2 qs H2 A2 R2 ⟨es, rfl, hf⟩
      have g2 := A2.fr p np _ upd_same
      have n2 : p ∉ ι2 := fun m => by
        obtain ⟨new, rfl, hn⟩ := A2.ext
        rcases List.mem_append.mp m with z | z
        · exact np z
        · exact free_no (hn p z) upd_same
      have O := R2.off (u' := .dK (mergeK [] es)) n2 g2 (fun z => z.2.2 _ rfl) fun xs => ⟨(fun z => by cases z), (fun _ z => by cases z)⟩
      exact ⟨g2, es, rfl, by rw [← FR.length hf]; exact hl, h ι2 _ _ (Aft.off (A0.trans R0 A2) (.inl hp)) O.1 ⟨.dic n2 upd_same (FR.go (fun _ _ z => z) O.2 (FR.merge hf .nil)), fun a e => by cases e; exact .inl hp⟩⟩
    · exact h.elim
end

end
end Lk
end

section
set_option Elab.async false
set_option linter.all false
set_option maxRecDepth 100000
set_option maxHeartbeats 4000000
namespace Lk
open PySem PySem.Spec PyProof.Rows L2
noncomputable section
variable [Tbl] [Lnk]
/-! ## IV: more words -/
def opPow (_ : DM) (x y : RV) : Option RV := match x, y with
  | .v (.int a), .v (.int b) => if 0 ≤ b ∧ b ≤ 1000 ∧ a.natAbs < 2 ^ 64 then some (.v (.int (a ^ b.toNat))) else none
  | _, _ => none
section
variable {X : Cx}
theorem opPow_ok : OpR X (binaryOp .Pow) (rI2 X.K opPow) := by
  intro pins s σ H x y v u Q I rx ry ⟨ι, M, a, b, r, R, ha, hb, e, k⟩
  unfold opPow at e
  split at e
  · split at e
    · rename_i hl
      cases e; cases vr_int ha; cases vr_int hb
      exact op_pow pins s σ H _ _ v u Q I rx ry ⟨_, _, rfl, rfl, ⟨hl.1, by have := hl.2.1; omega, hl.2.2⟩, k _ H (Same.refl H) (.v (.int _)) trivial⟩
    · cases e
  · cases e
/-- what a comprehension made is stored under a local name while the block's names still lie there -/
theorem stored_used {pins : List (Addr × Obj)} {σ : L2.St} {H' : Hp} {s' : Shared} {D : Ends} {i : Nat} {y : Str} {py : Pos} {L C : Addr} {m : Str → Option Value} (made : Inv X pins σ H' s') (names : s'.heap.Ns C m) (free : FpOk X pins H' C) (once : X.N.Nodup) (at_ : X.N[i]? = some y) (loc : X.env.scope.names.lookup y = some .local)
    (told : D.nx (σ.set i (some (.ref L))) H') : compPost (model X.prog X.w) X.A X.xe (some (assign (.Name y py) X.env)) (fun _ s' => SP X pins D .next s') (.ref L) C (.ok .next) s' :=
  wpAny_assign_Name <| store_ok2 (v := V.ref L) made once at_ (.inl loc) rfl (fun s2 stored later =>
    have ⟨a, others, which⟩ := later
    have ⟨k0, k1, _, k3, k4, k5⟩ := free
    have apart : C ≠ a := which.elim (fun z => z ▸ k1) fun z e => k4 y a z e.symm
    ⟨m, names.sameBut others apart, fun h3 last => ⟨_, H', stored.turned (t' := s2.toks) (fun b o ne there => (last.2 b ne).trans there) k0 k1 k3 k4 k5, told⟩⟩) (.inr loc)
/-- name = {k: v for ..} on one line, the name a local -/
theorem ps_setDc {i : Nat} {y : Str} {py : Pos} {kx vx tg iter : Expr} {ifs : List Expr} {scope : Scope} {own : List (Str × Nat)} {pos spos : Pos} {wi : TI} {g : TG} {tt : TT} {tk tv : TE} (calm : X.calm = true) (once : X.N.Nodup) (at_ : X.N[i]? = some y) (loc : X.env.scope.names.lookup y = some .local)
    (used : swapsWith (.DictComp kx vx [⟨tg, iter, ifs, 0⟩] scope pos) (some (.Name y py)) spos.line X.env = pure true) (it : PI X tg iter wi) (blk : BlkOk X.N X.env.scope scope own)
    (hg : InBlk X scope fun B => PG B tg g) (ht : InBlk X scope fun B => PTs B ifs tt) (hk : InBlk X scope fun B => PE B kx tk) (he : InBlk X scope fun B => PE B vx tv) (fold : ∀ x, foldedSetIterable iter X.env x = pure x) :
    PS X (.Assign [.Name y py] (.DictComp kx vx [⟨tg, iter, ifs, 0⟩] scope pos) spos) (tAsg (tDc wi g tt tk tv (own.map (·.2))) (gName i)) where
  run pins s σ H D I want := by
    rw [exec_Assign_Name_used _ _ _ _ used]
    have run_ := dc_core (pos' := firstIterPos [⟨tg, iter, ifs, 0⟩] pos) (pos := pos) (s := { s with toks := s.toks }) (use := some (assign (.Name y py) X.env)) (Qf := fun _ s' => SP X pins D .next s') (Q := fun x H1 => gName i x σ H1 D.nx) calm once I it blk hg ht hk he fold want
      fun L C s' m H' made told names free => stored_used made names free once at_ loc told
    exact wpAny_bind (wpAny_standAt (wpAny_bind (wpAny_bind (thn run_ fun _ s' done => wpAny_pure (wpAny_pure done)))))
theorem sw_trueD {kx vx : Expr} {gs : List Comprehension} {scope : Scope} {pos py : Pos} {y : Str} {l : Nat} {env : Env} (fn_ : env.scope.kind = .function) (loc : env.scope.names.lookup y = some .local) (line : (py.line == pos.line) = true)
    (own : (scope.names.any fun (n, k) => n == y && (k == .local || k == .cell)) = false) : swapsWith (.DictComp kx vx gs scope pos) (some (.Name y py)) l env = pure true := by
  have kind_ : env.blockKind = .function := by simp only [Env.blockKind, fn_]; rfl
  have name_ : env.kindOf y = some .local := loc
  simp only [swapsWith, kind_, name_, own, Expr.pos, line]
  rfl
theorem is_setDc {W : WX} {kx vx tg iter : Expr} {ifs : List Expr} {scope : Scope} {own : List (Str × Nat)} {pos spos py : Pos} {mi : DI} {t : Tg} {mt : DT} {me mk : DS → DM → Res DV} {i : Nat} {y : Str} (hc : X.calm = true) (hN : X.N.Nodup) (hy : X.N[i]? = some y) (hyl : X.env.scope.names.lookup y = some .local)
    (hsw : swapsWith (.DictComp kx vx [⟨tg, iter, ifs, 0⟩] scope pos) (some (.Name y py)) spos.line X.env = pure true) (hi : PI X tg iter (tG X.K W (relI X.K) mi)) (ok : BlkOk X.N X.env.scope scope own)
    (hg : InBlk X scope fun B => PG B tg (tGn X.K t)) (ht : InBlk X scope fun B => PTs B ifs (tIt X.K W0 mt)) (hk : InBlk X scope fun B => PE B kx (tIv X.K W0 mk)) (he : InBlk X scope fun B => PE B vx (tIv X.K W0 me)) (hs : ∀ x, foldedSetIterable iter X.env x = pure x) :
    PS X (.Assign [.Name y py] (.DictComp kx vx [⟨tg, iter, ifs, 0⟩] scope pos) spos) (tIs X.K W (mSet i (mV (mDc mi t mt mk me (own.map (·.2)))))) := ps_of (ps_setDc hc hN hy hyl hsw hi ok hg ht hk he hs) fun _ _ _ => tI_set fun _ _ _ => tI_dc
end

end
end Lk
end

section
set_option Elab.async false
set_option linter.all false
set_option maxRecDepth 100000
set_option maxHeartbeats 4000000
namespace Lk
open PySem PySem.Spec PyProof.Rows L2
noncomputable section
variable [Tbl] [Lnk]
/-! ### sets of texts: at a lies a set of just the texts l, which can be walked -/
structure TxAt (P : Program) (w : World) (h : Heap) (a : Addr) (l : List Str) : Prop where
  once : l.Nodup
  lies : ∃ D : PySem.Froz.SD, h.get? a = some (PySem.Froz.sObj "set" D) ∧ PySem.Froz.TxOk P w D l ∧ Ris D.2.2.place.toList ∧ (w.params.followText "set-order" = true ∨ D.2.2.led = true)
/-- a text put in -/
def insT (l : List Str) (k : Str) : List Str := if k ∈ l then l else k :: l
theorem insT_once {l : List Str} {k : Str} (h : l.Nodup) : (insT l k).Nodup := by
  unfold insT; split <;> first | exact h | exact List.nodup_cons.mpr ⟨by assumption, h⟩
theorem insT_len (l : List Str) (k : Str) : (insT l k).length ≤ l.length + 1 := by
  unfold insT; split <;> simp
theorem insT_mem {l : List Str} {k x : Str} : x ∈ insT l k ↔ x ∈ l ∨ x = k := by
  unfold insT
  by_cases e : k ∈ l
  · rw [if_pos e]; exact ⟨.inl, fun z => z.elim id fun q => q ▸ e⟩
  · rw [if_neg e, List.mem_cons]; exact Or.comm
/-- the payload behind the add of a text that was not there: its places rise as before, its order is led as before -/
theorem addTx_walk {D : PySem.Froz.SD} (n : Int) (v : Value) (r : Ris D.2.2.place.toList) : Ris (PySem.Froz.addTx n v D).2.2.place.toList ∧ (PySem.Froz.addTx n v D).2.2.led = D.2.2.led := by
  have a := layNew_ris D.2.2 D.1 n v r
  have b := layNew_led D.2.2 D.1 n v
  have tail : ∀ (t : SetTable) (es : Array (Int × Value)) (d : Bool), Ris t.place.toList → t.led = D.2.2.led → Ris (PySem.Froz.tailTx D.2.1 es t d).2.2.place.toList ∧ (PySem.Froz.tailTx D.2.1 es t d).2.2.led = D.2.2.led := fun t es d x y => by
    unfold PySem.Froz.tailTx; split
    · exact ⟨relayAll_ris .., (relayAll_led ..).trans y⟩
    · exact ⟨x, y⟩
  refine tail _ _ _ ?_ ?_ <;> split <;> first | exact a | exact b
section
variable {P : Program} {w : World} {A : Around} {E : Value → Shared → Prop} {s : Shared} {a : Addr} {l : List Str} {k : Str} {u : Tok}
theorem TxAt.moves {h h' : Heap} (R : TxAt P w h a l) (m : ∀ o, h.get? a = some o → h'.get? a = some o) : TxAt P w h' a l :=
  ⟨R.once, have ⟨D, at_, r⟩ := R.lies; ⟨D, m _ at_, r⟩⟩
theorem TxAt.is (R : TxAt P w s.heap a l) : s.TypeIs (.ref a) "set" := have ⟨_, at_, _⟩ := R.lies; ⟨_, at_, rfl⟩
/-- a text that is there is found by the scan: nothing changes -/
theorem put_seen {D : PySem.Froz.SD} {Q : Bool → Shared → Prop} (at_ : s.heap.get? a = some (PySem.Froz.sObj "set" D)) (F : PySem.Froz.TxOk P w D l) (few : l.length < scanBound) (seen : k ∈ l) (q : Q false s) :
    wpAny (model P w) A (setAddHashed a (.str k u) (hashStr w k)) Q E s := by
  have ⟨e, he, is_⟩ := (F.mem k).mp seen
  have scan := byScan_of (x := .str k u) (knd := PySem.strKind P w) rfl (F.sz ▸ few) F.el
  simp only [setAddHashed]
  refine wpAny_holding ?_
  delta setAddHashedIn; dsimp only
  refine wpAny_bind (wpAny_setState_of (o := PySem.Froz.sObj "set" D) at_ rfl F.fit ?_); dsimp only
  rw [scan, if_pos rfl]; simp only [setAddByScan, bind_assoc]
  refine wpAny_bind (wpAny_rule (wpAny_bind (wpAny_setScan_of (knd := PySem.strKind P w) (k := k) (PySem.Froz.is_str k u) at_ rfl F.fit F.el ?_)))
  cases place : D.1.toList.findIdx? fun e => (PySem.strKind P w).is k e.2 with
  | none => exact absurd is_ (by rw [List.findIdx?_eq_none_iff.mp place e he]; decide)
  | some j => exact wpAny_bind (wpAny_pure (wpAny_pure q))
theorem TxAt.put {Q : Bool → Shared → Prop} (R : TxAt P w s.heap a l) (room : l.length + 1 < scanBound) (q : ∀ b h', Heap.SameBut a s.heap h' → TxAt P w h' a (insT l k) → Q b { s with heap := h' }) :
    wpAny (model P w) A (setAddHashed a (.str k u) (hashStr w k)) Q E s := by
  have ⟨D, at_, F, rise, led⟩ := R.lies
  by_cases seen : k ∈ l
  · exact put_seen at_ F (by omega) seen (q false s.heap (Heap.SameBut.refl a s.heap) (by unfold insT; rw [if_pos seen]; exact R))
  · have ⟨rise', led'⟩ := addTx_walk (D := D) (hashStr w k) (.str k u) rise
    exact PySem.Froz.add_x at_ F seen room (q true _ (Heap.SameBut.update s.heap a _) ⟨insT_once R.once, _, PySem.Froz.get_upd _ at_ rfl, by unfold insT; rw [if_neg seen]; exact PySem.Froz.add_ok u F, rise', led.imp id fun z => led'.trans z⟩)
/-- s.add(k) -/
theorem TxAt.add {Q : Value → Shared → Prop} (R : TxAt P w s.heap a l) (room : l.length + 1 < scanBound) (q : ∀ h', Heap.SameBut a s.heap h' → TxAt P w h' a (insT l k) → Q .none { s with heap := h', toks := s.toks + 1 }) :
    wpAny (model P w) A (call (.builtin "set.add") [.ref a, .str k u]) Q E s := by
  refine wpAny_call_entry F.slot_set_add R.is F.entry_set_add ?_ (F.args_set_add_2 _ _)
  simp only [Builtin.«set.add», Builtin.Frozenset.oneOther, Builtin.Frozenset.addrOf, setAdd, List.isEmpty_nil, bind_assoc]
  refine wpAny_bind (wpAny_pure (wpAny_bind (wpAny_pure (wpAny_bind (wpAny_holding (wpAny_bind ((PySem.strKind P w).pyHash (PySem.Froz.is_str k u) ?_)))))))
  exact TxAt.put (s := { s with toks := s.toks + 1 }) R room fun b h' sb r => wpAny_pure ⟨_, rfl, q h' sb r⟩
end
/-- as a tracked thing -/
def TxO (P : Program) (w : World) (a : Addr) (l : List Str) : HO := .ext fun h => TxAt P w h a l
abbrev freshO (w : World) : Obj := { cls := .type "set", dict := none, data := .set #[] 0 (.fresh 0 0 (!w.params.followText "set-order")) }
theorem TxAt.fresh {P : Program} {w : World} {h : Heap} {a : Addr} (at_ : h.get? a = some (freshO w)) : TxAt P w h a [] :=
  ⟨.nil, (#[], 0, .fresh 0 0 (!w.params.followText "set-order")), at_, PySem.Froz.TxOk.nil rfl, .nil, by cases w.params.followText "set-order" <;> first | exact .inl rfl | exact .inr rfl⟩
theorem TxAt.ok {P : Program} {w : World} {H : Hp} {h : Heap} {a : Addr} {l : List Str} (R : TxAt P w h a l) : ObjOk P w H h a (TxO P w a l) :=
  ⟨R, have ⟨_, at_, _⟩ := R.lies; ⟨_, at_⟩, fun _ _ r m => TxAt.moves r m⟩
section
variable {X : Cx} {pins : List (Addr × Obj)} {σ : L2.St} {H : Hp} {s : Shared} {a : Addr} {l : List Str}
theorem tx_at (I : Inv X pins σ H s) (at_ : H a = some (TxO X.prog X.w a l)) : TxAt X.prog X.w s.heap a l := (I.hok a _ at_).1
/-- what add leaves -/
theorem tx_add {k : Str} {u : Value} {A : Around} {E : Value → Shared → Prop} {Q : Value → Shared → Prop} (I : Inv X pins σ H s) (at_ : H a = some (TxO X.prog X.w a l)) (room : l.length + 1 < scanBound) (rel : RelV (.str k) u)
    (q : ∀ s', Inv X pins σ (upd H a (TxO X.prog X.w a (insT l k))) s' → Q .none s') : wpAny (model X.prog X.w) A (call (.builtin "set.add") [.ref a, u]) Q E s := by
  obtain ⟨t, rfl⟩ := rel
  exact TxAt.add (tx_at I at_) room fun h' sb new => q _ (I.write (e := a) (t' := s.toks + 1) (by rw [at_]; trivial) (.inl rfl) (fun b o nb old => (sb.2 b nb).trans old) (have ⟨_, there, _⟩ := new.lies; ⟨_, there⟩) new.ok)
/-- sorted(s), fewer than 64 texts -/
def rSortTx (P : Program) (w : World) : List V → Hp → VK → Prop := fun vs H Q => ∃ (a : Addr) (l : List Str), vs = [.ref a] ∧ H a = some (TxO P w a l) ∧ l.length < 64 ∧ ∀ p, H p = none → Q (.ref p) (upd H p (.lst ((srt l).map V.str)))
theorem str_of_is {P : Program} {w : World} {k : Str} {v : Value} (h : (PySem.strKind P w).is k v = true) : ∃ t, v = .str k t := by
  revert h
  show Value.isStrOf k v = true → _
  cases v with
  | str z t => exact fun h => ⟨t, by rw [eq_of_beq (show (z == k) = true from h)]⟩
  | _ => exact fun h => absurd h (by simp [Value.isStrOf])
/-- values that are texts, as texts -/
theorem strs_each : ∀ {vs : List Value}, (∀ v ∈ vs, ∃ k t, v = Value.str k t) → ∃ ks, StrsAre vs ks ∧ ∀ k, k ∈ ks ↔ ∃ t, Value.str k t ∈ vs
  | [], _ => ⟨[], .nil, fun k => by simp⟩
  | v :: vs, h => by
    obtain ⟨k, t, rfl⟩ := h v List.mem_cons_self
    obtain ⟨ks, a, b⟩ := strs_each fun u hu => h u (List.mem_cons_of_mem _ hu)
    refine ⟨k :: ks, .cons k t a, fun x => ?_⟩
    simp only [List.mem_cons, b x, Value.str.injEq]
    exact ⟨fun z => z.elim (fun e => ⟨t, .inl ⟨e, rfl⟩⟩) fun ⟨u, q⟩ => ⟨u, .inr q⟩, fun ⟨u, z⟩ => z.elim (fun e => .inl e.1) fun q => .inr ⟨u, q⟩⟩
/-- two lists of one length, one without doubles and within the other: the same but for their order -/
theorem perm_within : ∀ {l ks : List Str}, l.Nodup → (∀ x ∈ l, x ∈ ks) → ks.length = l.length → ks.Perm l
  | [], ks, _, _, e => by rw [List.length_eq_zero_iff.mp e]
  | x :: r, ks, nd, sub, e => by
    have ⟨nx, nr⟩ := List.nodup_cons.mp nd
    have hx := sub x List.mem_cons_self
    have p := List.perm_cons_erase hx
    have len : (ks.erase x).length = r.length := by
      have := p.length_eq
      simp only [List.length_cons] at this e
      omega
    exact p.trans ((perm_within nr (fun y hy => (List.mem_erase_of_ne fun z : y = x => nx (z ▸ hy)).mpr (sub y (List.mem_cons_of_mem _ hy))) len).cons x)
/-- what is gathered of it -/
theorem TxAt.gathered {P : Program} {w : World} {A : Around} {E : Value → Shared → Prop} {Q : List Value → Shared → Prop} (R : TxAt P w s.heap a l) (calm : A.handled = none) (few : l.length < scanBound)
    (q : ∀ s' vs ks, (∀ b o, s.heap.get? b = some o → s'.heap.get? b = some o) → s.heap.objs.size ≤ s'.heap.objs.size → s'.gens = s.gens → s'.os = s.os → StrsAre vs ks → ks.Perm l → Q vs s') : wpAny (model P w) A (collect (.ref a)) Q E s := by
  have ⟨D, at_, F, rise, led⟩ := R.lies
  refine collect_set calm ⟨_, at_, rfl, rfl⟩ F.fit (F.sz ▸ few) rise led fun s' vs keep big gens os perm => ?_
  have texts : ∀ v ∈ vs, ∃ k t, v = Value.str k t := fun v hv => by
    obtain ⟨e, he, rfl⟩ := List.mem_map.mp (perm.mem_iff.mp hv)
    have ⟨⟨k, is_, _⟩, _⟩ := F.el e he
    exact ⟨k, str_of_is is_⟩
  have ⟨ks, are, mem⟩ := strs_each texts
  refine q s' vs ks keep big gens os are (perm_within R.once (fun x hx => ?_) ?_)
  · have ⟨e, he, is_⟩ := (F.mem x).mp hx
    have ⟨t, et⟩ := str_of_is is_
    exact (mem x).mpr ⟨t, perm.mem_iff.mpr (List.mem_map.mpr ⟨e, he, et⟩)⟩
  · have l1 : vs.length = ks.length := are.length
    have l2 := perm.length_eq
    rw [List.length_map, Array.length_toList (xs := D.1), F.sz] at l2
    exact l1.symm.trans l2
theorem cr_sortTx (calm : X.calm = true) : CallR X (.builtin "sorted") (rSortTx X.prog X.w) := fun pins s σ H vs us Q I rel ⟨a, l, e, at_, few, q⟩ => by
  subst e
  rw [Vals.ref1 rel]
  refine Calls.call_function_entry kind_sorted plain_sorted entry_sorted (args_sorted1 _) (wpAny_bind (m := checkCount "sorted" 1 1 _) (wpAny_pure (wpAny_bind (TxAt.gathered (tx_at I at_) (I.ok.hd calm) (by unfold scanBound; omega) fun s1 vs ks keep big gens os are perm => ?_))))
  have len : vs.length < 64 := by rw [are.length, perm.length_eq]; exact few
  have there : (s1.heap.push (seqObj "list" vs.toArray 0)).get? s1.heap.objs.size = some (seqObj "list" vs.toArray 0) := Heap.get?_push_size _ rfl
  refine wpAny_bind (wpAny_newList (wpAny_bind (wpAny_holding (wpAny_call_entry slot_list_sort ⟨_, there, rfl⟩ entry_list_sort (list_sort_treeK strKind_oneLt there are.keysOf (fun _ _ _ e => keyKind_strs (e ▸ are)) len fun st p1 p2 => ⟨_, rfl, ?_⟩) (args_list_sort _)))) (by rw [sizeLine_eq]; omega))
  have ⟨ys, y1, y2, y3⟩ := sorted_out_str are p1 p2
  have ⟨c, laid⟩ := sortedHeap_at (vs := vs) (out := (arrOf st).map (·.2)) there
  have ey : ys = srt l := srt_eq (y2.trans perm) y3
  subst ey
  have free : H s1.heap.objs.size = none := I.hok.fresh big
  have kept : ∀ b o, s.heap.get? b = some o → (sortedHeap (s1.heap.push (seqObj "list" vs.toArray 0)) s1.heap.objs.size vs ((arrOf st).map (·.2))).get? b = some o := fun b o old => by
    have old1 := keep b o old
    have lt := Heap.lt_size old1
    rw [sortedHeap_old (Nat.ne_of_lt lt) (by rw [size_push']; exact Nat.lt_succ_of_lt lt)]
    exact Heap.get?_push_of_some _ old1
  have long : ((srt l).map V.str).length ≤ sizeLine := by rw [List.length_map, (srt_perm l).length_eq, sizeLine_eq]; omega
  exact wpAny_pure ⟨_, rfl, .ref _, upd H s1.heap.objs.size (.lst ((srt l).map V.str)), I.call' (ch := []) os (Un.laid kept big free) (I.hok.laid kept big ⟨long, _, c, vals_of_strs y1, by rw [Array.toArray_toList]; exact laid⟩) (by rw [gens]; exact I.bare) (fun _ z => nomatch z), rfl, q _ free⟩
end

/-! ### set(a list of texts) -/
def putAll (l : List Str) (xs : List Str) : List Str := xs.foldl insT l
theorem putAll_snoc (l xs : List Str) (k : Str) : putAll l (xs ++ [k]) = insT (putAll l xs) k := by unfold putAll; rw [List.foldl_append]; rfl
theorem putAll_len : ∀ (xs l : List Str), (putAll l xs).length ≤ l.length + xs.length
  | [], l => Nat.le_refl _
  | x :: xs, l => by
    have a := putAll_len xs (insT l x)
    have b := insT_len l x
    show (putAll (insT l x) xs).length ≤ _
    rw [List.length_cons]; omega
theorem putAll_mem : ∀ {xs l : List Str} {x : Str}, x ∈ putAll l xs ↔ x ∈ l ∨ x ∈ xs
  | [], l, x => by simp [putAll]
  | y :: xs, l, x => by
    show x ∈ putAll (insT l y) xs ↔ _
    rw [putAll_mem, insT_mem, List.mem_cons, or_assoc]
theorem putAll_once : ∀ {xs l : List Str}, l.Nodup → (putAll l xs).Nodup
  | [], _, h => h
  | y :: xs, l, h => show (putAll (insT l y) xs).Nodup from putAll_once (insT_once h)
section
variable {P : Program} {w : World} {A : Around} {E : Value → Shared → Prop} {s : Shared}
theorem update_once {S I : Addr} {R : Result → Shared → Prop} (h : wpAny (model P w) A.in1 (Builtin.«set.update.loop» ⟨[.ref S, .ref I], []⟩) (fun fin s' => match fin with | .done fl => R (.ok fl) s' | .again c => c.quiet = true ∧ codeAny (model P w) A c R s') (fun x s' => R (.error x) s') s) : codeAny (model P w) A (.builtin "set.update.loop" ⟨[.ref S, .ref I], []⟩) R s :=
  codeAny_builtin PyProof.Rows.F.entry_set_update_loop (by rw [Around.under_plainId PyProof.Rows.F.plain_set_update_loop _]; exact h)
/-- the loop that puts what an iterator has left into the set at S -/
theorem tx_update {I S : Addr} {fp wr : List Addr} {G : Array GenState → Array GenState → Prop} {n : Nat} {Pv : Nat → Value → Prop} {St : Nat → Shared → Prop} {R : Result → Shared → Prop} {xs : List Str} (W : WalksS P w A.in1 I fp wr G n Pv St) (apart_ : S ∉ fp)
    (is_ : ∀ i v, Pv i v → ∃ k t, xs[i]? = some k ∧ v = .str k t) (len : xs.length = n) (few : n + 1 < scanBound) : ∀ (rest done : List Str) (s : Shared), done ++ rest = xs → St done.length s → TxAt P w s.heap S (putAll [] done) →
      (∀ s', Moved (S :: wr) G s s' → TxAt P w s'.heap S (putAll [] xs) → R (.ok (.ret .none)) s') → codeAny (model P w) A (.builtin "set.update.loop" ⟨[.ref S, .ref I], []⟩) R s
  | [], done, s, all, st, R0, q => by
    rw [List.append_nil] at all; subst all; subst len
    exact update_once (wpAny_bind (W.done s _ _ st fun s' mv => wpAny_pure (q s' (mv.mono fun b hb => List.mem_cons_of_mem _ hb) (R0.moves fun o at_ => mv.heap S o (fun z => apart_ (W.sub _ z)) at_))))
  | x :: rest, done, s, all, st, R0, q => by
    have lt : done.length < n := by rw [← len, ← all, List.length_append, List.length_cons]; omega
    refine update_once (wpAny_bind (W.item done.length s _ _ lt st fun v s' pv st' mv => ?_))
    obtain ⟨k, t, ek, rfl⟩ := is_ _ _ pv
    have ex : k = x := by rw [← all, List.getElem?_append_right (Nat.le_refl _), Nat.sub_self] at ek; exact (Option.some.inj ek).symm
    subst ex
    have R1 : TxAt P w s'.heap S (putAll [] done) := R0.moves fun o at_ => mv.heap S o (fun z => apart_ (W.sub _ z)) at_
    have short : (putAll [] done).length + 1 < scanBound := by have := putAll_len done []; simp only [List.length_nil] at this; omega
    show wpAny _ A.in1 (holding [Value.str k t] (setAdd S (.str k t)) >>= _) _ _ s'
    refine wpAny_bind (wpAny_holding (wpAny_holding (wpAny_bind ((PySem.strKind P w).pyHash (k := k) (PySem.Froz.is_str k t) (TxAt.put (s := { s' with toks := s'.toks + 1 }) R1 short fun b h' sb R2 => wpAny_pure ⟨plainId_quiet PyProof.Rows.F.plain_set_update_loop _, ?_⟩)))))
    refine tx_update W apart_ is_ len few rest (done ++ [k]) _ (by rw [List.append_assoc]; exact all) (by rw [List.length_append]; exact W.frame _ s' _ _ st' (Nat.le_succ _) fun b hb o at_ => by rw [sb.2 b fun z => apart_ (z ▸ hb)]; exact at_) (by rw [putAll_snoc]; exact R2) fun s'' mv' R3 => q s'' (Moved.trans W.gtrans ((mv.mono fun b hb => List.mem_cons_of_mem _ hb).then_heap (Nat.le_succ _) fun b o nb at_ => by rw [sb.2 b fun z => nb (z ▸ List.mem_cons_self)]; exact at_) mv') R3
set_option maxHeartbeats 3200000 in
/-- set(v): the new set, then its __init__ -/
theorem made_set {v : Value} {Q : Value → Shared → Prop} (init : ∀ A' : Around, A'.handled = A.handled → codeAny (model P w) A' (.call (.builtin "set.__init__") ⟨[.ref s.heap.objs.size, v], []⟩) (wants (fun r s' => r = .none ∧ Q (.ref s.heap.objs.size) s') E) { s with heap := s.heap.push (freshO w) }) :
    wpAny (model P w) A (call (.type "set") [v]) Q E s := by
  have ⟨_, _, mro_⟩ := F.called_set.mro
  have a1 := F.called_set.made
  have a2 := F.called_set.sub
  have a3 := F.called_set.notType
  have a4 := F.called_set.canCreate
  have a5 := F.typeCall_set_1 v
  refine wpAny_call (codeAny_of_tree (show wpAny _ _ (callAny (.type "set") _) _ _ _ from wpAny_pure ⟨Code.quiet_builtin _ (by decide +kernel), codeAny_builtin F.entry_type_call ?_⟩))
  rw [Around.under_plain (weight_type_call_type "set" [v] []) rfl]
  repeat any_goals first | assumption | wp_step
  refine codeAny_mono (code_set_led1 v (E := E) (Q₁ := fun o s1 => o = .ref s.heap.objs.size ∧ s1 = { s with heap := s.heap.push (freshO w) }) ⟨rfl, rfl⟩) fun r s1 hr => ?_
  match r, hr with
  | .error x, hr => exact hr
  | .ok (.ret o), ⟨eo, es⟩ =>
    subst eo; subst es
    have b1 : Shared.TypeIs { s with heap := s.heap.push (freshO w) } (.ref s.heap.objs.size) "set" := ⟨_, Heap.get?_push_size _ rfl, rfl⟩
    have b2 := F.called_set.init.lookup
    have b3 := F.called_set.init.bind (.ref s.heap.objs.size)
    repeat any_goals first | assumption | wp_step
    refine codeAny_mono (init _ (by simp)) fun r2 s2 hr2 => ?_
    match r2, hr2 with
    | .error x, hr2 => exact hr2
    | .ok (.ret o), ⟨eo, q⟩ =>
      subst eo
      repeat any_goals first | assumption | wp_step
set_option maxHeartbeats 3200000 in
theorem init_texts {S l : Addr} {items : Array Value} {xs : List Str} {R : Shared → Prop} (calm : A.handled = none) (new : s.heap.get? S = some (freshO w)) (ne : S ≠ l) (at_ : s.heap.IsList l items) (are : StrsAre items.toList xs) (few : xs.length + 1 < scanBound)
    (q : ∀ h' t, (∀ b o, b ≠ S → s.heap.get? b = some o → h'.get? b = some o) → TxAt P w h' S (putAll [] xs) → R { s with heap := h', toks := t }) :
    codeAny (model P w) A (.call (.builtin "set.__init__") ⟨[.ref S, .ref l], []⟩) (wants (fun r s' => r = .none ∧ R s') E) s := by
  have ty : s.TypeIs (.ref S) "set" := ⟨_, new, rfl⟩
  have len : items.size = xs.length := by have := are.length; rwa [Array.length_toList] at this
  refine codeAny_call_builtin (R := wants (fun r s' => r = .none ∧ R s') E) F.called_set.init.plain F.entry_set_init (check_set_init_1 ty ?_)
  have ⟨ol, ho, hc, n, hd⟩ := id at_
  obtain ⟨cl_, dict_, data_, slots_⟩ := ol
  dsimp only at hc hd
  subst hc hd
  have c1 := F.sub_list_set
  have c2 := F.sub_list_frozenset
  have c3 : (Value.type "list" == Value.type "dict") = false := by decide
  delta Builtin.«set.__init__» noKeywords Builtin.Frozenset.updateFrom
  generalize hold : pyIter = it_
  wp_walk
  subst hold
  have lt1 : l < s.heap.objs.size := Heap.lt_size ho
  have lt2 : S < s.heap.objs.size := Heap.lt_size new
  refine wpAny_pyIter_list at_ (wpAny_bind (wpAny_runValue (tx_update (xs := xs) ((Walks.list (A := A.in1.in1) (by simp [calm]) s.heap.objs.size l (Nat.ne_of_lt lt1) items).toS) (S := S) ?_ ?_ len.symm (by rw [len]; exact few) xs [] _ rfl ⟨⟨_, Heap.get?_push_size _ rfl, rfl, rfl⟩, at_.push _⟩ (TxAt.fresh (Heap.get?_push_of_some _ new)) ?_)))
  · simp only [List.mem_cons, List.not_mem_nil, or_false, not_or]; exact ⟨Nat.ne_of_lt lt2, ne⟩
  · intro i v hv0
    have hv : items.toList[i]? = some v := by rw [Array.getElem?_toList]; exact hv0
    clear q few len new at_ ho hv0
    generalize items.toList = vs at are hv
    induction are generalizing i with
    | nil => simp at hv
    | cons y t _ more =>
      match i, hv with
      | 0, hv => exact ⟨y, t, rfl, (Option.some.inj hv).symm⟩
      | i + 1, hv => exact more i hv
  · intro s' mv R1
    obtain ⟨h', gen', drawn', t', os'⟩ := s'
    obtain rfl : gen' = s.gens := mv.gens
    obtain rfl : drawn' = s.drawn := mv.drawn
    obtain rfl : os' = s.os := mv.os
    refine wpAny_pure (wpAny_pure ⟨rfl, q h' t' (fun b o nb old => mv.heap b o ?_ (Heap.get?_push_of_some _ old)) R1⟩)
    simp only [List.mem_cons, List.not_mem_nil, or_false, not_or]
    exact ⟨nb, Nat.ne_of_lt (Heap.lt_size old)⟩
end
/-- set(xs), xs a list of texts -/
def rSetTx (K : PySem.W.Frag) (P : Program) (w : World) : List V → Hp → VK → Prop := fun vs H Q => ∃ (a : Addr) (xs : List Str), vs = [.ref a] ∧ SqL K H a (xs.map V.str) ∧ xs.length + 1 < scanBound ∧ ∀ p, H p = none → Q (.ref p) (upd H p (TxO P w p (putAll [] xs)))
theorem cr_setTx {X : Cx} (calm : X.calm = true) : CallR X (.type "set") (rSetTx X.K X.prog X.w) := fun pins s σ H vs us Q I rel ⟨a, xs, e, at_, few, q⟩ => by
  subst e
  rw [Vals.ref1 rel]
  have ⟨its, vals, is_, _⟩ := I.list at_
  have list_ := is_.isList
  refine made_set fun A' same => ?_
  have lt : a < s.heap.objs.size := have ⟨_, h, _⟩ := list_; Heap.lt_size h
  refine init_texts (items := its.toArray) (xs := xs) (same.trans (I.ok.hd calm)) (Heap.get?_push_size _ rfl) (Nat.ne_of_gt lt) (list_.push _) (by simpa using vals.strs) few fun h' t keep R => ?_
  have keep' : ∀ b o, s.heap.get? b = some o → h'.get? b = some o := fun b o old => keep b o (Nat.ne_of_lt (Heap.lt_size old)) (Heap.get?_push_of_some _ old)
  exact ⟨.ref _, upd H s.heap.objs.size (TxO X.prog X.w s.heap.objs.size (putAll [] xs)), I.laid keep' (Nat.le_refl _) R.ok, rfl, q _ (I.hok.fresh (Nat.le_refl _))⟩

/-! set(a tuple of texts) -/
section
variable {P : Program} {w : World} {A : Around} {E : Value → Shared → Prop} {s : Shared}
set_option maxHeartbeats 3200000 in
theorem init_textsT {S l : Addr} {items : Array Value} {xs : List Str} {R : Shared → Prop} (calm : A.handled = none) (new : s.heap.get? S = some (freshO w)) (ne : S ≠ l) (at_ : s.heap.IsTuple l items) (are : StrsAre items.toList xs) (few : xs.length + 1 < scanBound)
    (q : ∀ h' t, (∀ b o, b ≠ S → s.heap.get? b = some o → h'.get? b = some o) → TxAt P w h' S (putAll [] xs) → R { s with heap := h', toks := t }) :
    codeAny (model P w) A (.call (.builtin "set.__init__") ⟨[.ref S, .ref l], []⟩) (wants (fun r s' => r = .none ∧ R s') E) s := by
  have ty : s.TypeIs (.ref S) "set" := ⟨_, new, rfl⟩
  have len : items.size = xs.length := by have := are.length; rwa [Array.length_toList] at this
  refine codeAny_call_builtin (R := wants (fun r s' => r = .none ∧ R s') E) F.called_set.init.plain F.entry_set_init (check_set_init_1 ty ?_)
  have ⟨ol, ho, hc, n, hd⟩ := id at_
  obtain ⟨cl_, dict_, data_, slots_⟩ := ol
  dsimp only at hc hd
  subst hc hd
  have c1 := F.sub_tuple_set
  have c2 := F.sub_tuple_frozenset
  have c3 : (Value.type "tuple" == Value.type "dict") = false := by decide
  delta Builtin.«set.__init__» noKeywords Builtin.Frozenset.updateFrom
  generalize hold : pyIter = it_
  wp_walk
  subst hold
  have lt1 : l < s.heap.objs.size := Heap.lt_size ho
  have lt2 : S < s.heap.objs.size := Heap.lt_size new
  refine wpAny_pyIter_tuple at_ (wpAny_bind (wpAny_runValue (tx_update (xs := xs) ((Walks.tuple (A := A.in1.in1) (by simp [calm]) s.heap.objs.size l (Nat.ne_of_lt lt1) items).toS) (S := S) ?_ ?_ len.symm (by rw [len]; exact few) xs [] _ rfl ⟨⟨_, Heap.get?_push_size _ rfl, rfl, rfl⟩, at_.push _⟩ (TxAt.fresh (Heap.get?_push_of_some _ new)) ?_)))
  · simp only [List.mem_cons, List.not_mem_nil, or_false, not_or]; exact ⟨Nat.ne_of_lt lt2, ne⟩
  · intro i v hv0
    have hv : items.toList[i]? = some v := by rw [Array.getElem?_toList]; exact hv0
    clear q few len new at_ ho hv0
    generalize items.toList = vs at are hv
    induction are generalizing i with
    | nil => simp at hv
    | cons y t _ more =>
      match i, hv with
      | 0, hv => exact ⟨y, t, rfl, (Option.some.inj hv).symm⟩
      | i + 1, hv => exact more i hv
  · intro s' mv R1
    obtain ⟨h', gen', drawn', t', os'⟩ := s'
    obtain rfl : gen' = s.gens := mv.gens
    obtain rfl : drawn' = s.drawn := mv.drawn
    obtain rfl : os' = s.os := mv.os
    refine wpAny_pure (wpAny_pure ⟨rfl, q h' t' (fun b o nb old => mv.heap b o ?_ (Heap.get?_push_of_some _ old)) R1⟩)
    simp only [List.mem_cons, List.not_mem_nil, or_false, not_or]
    exact ⟨nb, Nat.ne_of_lt (Heap.lt_size old)⟩
end

end
end Lk
end

section
set_option Elab.async false
set_option linter.all false
set_option maxRecDepth 100000
set_option maxHeartbeats 4000000
namespace Lk
open PySem PySem.Spec PyProof.Rows L2
noncomputable section
variable [Tbl] [Lnk]
/-! repr's text, told for the kernel: lists instead of arrays -/
section
open PySem PySem.Builtin PySem.Builtin.Str
def joinQ : Bool → List (List Nat) → List Nat
  | _, [] => []
  | b, t :: r => (if b = true then [44, 32] else []) ++ (t ++ joinQ true r)
theorem joinQ_cons (b : Bool) (t : List Nat) (r : List (List Nat)) : joinQ b (t :: r) = (if b = true then [44, 32] else []) ++ (t ++ joinQ true r) := rfl
def quoteN (x : Str) : Nat := if x.cps.toList.contains 39 && !x.cps.toList.contains 34 then 34 else 39
def quoteQ (x : Str) : List Nat := quoteN x :: (x.cps.toList.flatMap (reprChar (quoteN x)) ++ [quoteN x])
mutual
def showQ : PyData → List Nat
  | .none => [78, 111, 110, 101]
  | .bool b => if b = true then [84, 114, 117, 101] else [70, 97, 108, 115, 101]
  | .int i => (PyData.shown (.int i)).cps.toList
  | .str x => quoteQ x
  | .list xs => 91 :: (joinQ false (showQs xs) ++ [93])
  | .tuple xs => 40 :: (joinQ false (showQs xs) ++ (if xs.length = 1 then [44, 41] else [41]))
  | .dict kvs => (PyData.shown (.dict kvs)).cps.toList
def showQs : List PyData → List (List Nat)
  | [] => []
  | x :: xs => showQ x :: showQs xs
end
theorem quote_eq (x : Str) : reprQuote x = quoteN x := by
  unfold reprQuote quoteN
  rw [← Array.contains_toList, ← Array.contains_toList]
theorem fold_push (q : Nat) : ∀ (l : List Nat) (acc : Array Nat), (l.foldl (fun out c => out ++ (reprChar q c).toArray) acc).toList = acc.toList ++ l.flatMap (reprChar q)
  | [], acc => by simp
  | c :: r, acc => by
    rw [List.foldl_cons, fold_push q r, List.flatMap_cons, Array.toList_append]
    simp
theorem text_eq (x : Str) : (reprText x).cps.toList = quoteQ x := by
  unfold reprText quoteQ
  rw [quote_eq]
  rw [show ∀ c : Array Nat, (Str.mk c).cps = c from fun _ => rfl, Array.toList_push, ← Array.foldl_toList, fold_push]
  rfl
theorem from_eq : ∀ (ts : List Str) (k : Nat) (acc : Str), (textFrom k acc ts).cps.toList = acc.cps.toList ++ joinQ (decide (k > 0)) (ts.map fun t => t.cps.toList)
  | [], k, acc => by simp [textFrom, joinQ]
  | t :: ts, k, acc => by
    have ih := from_eq ts (k + 1) (acc ++ (if k > 0 then ", " else "" : String) ++ t)
    show (textFrom (k + 1) _ ts).cps.toList = _
    rw [ih, List.map_cons, joinQ_cons]
    by_cases h : k > 0
    · have e : (", " : Str).cps.toList = [44, 32] := by decide +kernel
      simp only [if_pos h, Str.cps_append, Array.toList_append, h, decide_true, if_true, e, Nat.succ_pos, List.append_assoc, gt_iff_lt, Nat.zero_lt_succ]
    · have e : ("" : Str).cps.toList = [] := by decide +kernel
      simp only [if_neg h, Str.cps_append, Array.toList_append, h, decide_false, Bool.false_eq_true, if_false, e, Nat.succ_pos, List.append_assoc, decide_true, List.nil_append, List.append_nil, gt_iff_lt, Nat.zero_lt_succ]
theorem join_eq : ∀ (ts : List Str) (b : Bool), ts ≠ [] → joinQ b (ts.map fun t => t.cps.toList) = (if b = true then [44, 32] else []) ++ (Str.join ", " ts).cps.toList
  | [], _, h => absurd rfl h
  | [x], b, _ => by
    show (if b = true then [44, 32] else []) ++ (x.cps.toList ++ []) = _ ++ x.cps.toList
    rw [List.append_nil]
  | x :: y :: r, b, _ => by
    have ih := join_eq (y :: r) true (by simp)
    have e : (", " : Str).cps.toList = [44, 32] := by decide +kernel
    show (if b = true then [44, 32] else []) ++ (x.cps.toList ++ joinQ true ((y :: r).map fun t => t.cps.toList)) = _ ++ (x ++ ", " ++ Str.join ", " (y :: r)).cps.toList
    rw [ih, Str.cps_append, Str.cps_append, Array.toList_append, Array.toList_append, e]
    simp
theorem shows_len : ∀ xs : List PyData, (PyData.shownAll xs).length = xs.length
  | [] => by simp [PyData.shownAll]
  | _ :: xs => by simp [PyData.shownAll, shows_len xs]
mutual
theorem show_eq : ∀ d : PyData, d.shown.cps.toList = showQ d
  | .none => by simp only [PyData.shown, showQ]; decide +kernel
  | .bool true => by simp only [PyData.shown, showQ]; decide +kernel
  | .bool false => by simp only [PyData.shown, showQ]; decide +kernel
  | .int i => by simp only [showQ]
  | .str x => by simp only [PyData.shown, showQ]; exact text_eq x
  | .list xs => by
    simp only [PyData.shown, showQ]
    unfold listText
    have e1 : ("[" : Str).cps.toList = [91] := by decide +kernel
    have e2 : ("]" : Str).cps.toList = [93] := by decide +kernel
    rw [Str.cps_append, Array.toList_append, from_eq, e1, e2, shows_eq xs]
    simp
  | .tuple xs => by
    simp only [PyData.shown, showQ]
    unfold tupleText
    have e1 : ("(" : Str).cps.toList = [40] := by decide +kernel
    have e2 : (")" : Str).cps.toList = [41] := by decide +kernel
    have e3 : (",)" : Str).cps.toList = [44, 41] := by decide +kernel
    have j : (Str.join ", " (PyData.shownAll xs)).cps.toList = joinQ false (showQs xs) := by
      rw [← shows_eq xs]
      cases h : PyData.shownAll xs with
      | nil => rfl
      | cons a as => rw [join_eq _ false (by simp)]; simp
    rw [Str.cps_append, Str.cps_append, Array.toList_append, Array.toList_append, e1, j, shows_len]
    by_cases h : xs.length = 1
    · simp [h, e3]
    · simp [h, e2]
  | .dict kvs => by simp only [showQ]
theorem shows_eq : ∀ xs : List PyData, (PyData.shownAll xs).map (fun t => t.cps.toList) = showQs xs
  | [] => by simp only [PyData.shownAll, showQs, List.map_nil]
  | x :: xs => by simp only [PyData.shownAll, showQs, List.map_cons, show_eq x, shows_eq xs]
end
theorem shown_eq (d : PyData) : d.shown = ⟨⟨showQ d⟩⟩ := by
  have e := show_eq d
  cases h : d.shown with
  | mk c => rw [h] at e; cases c with | mk l => cases e; rfl
theorem shown_len (d : PyData) : d.shown.length = (showQ d).length := by rw [← show_eq]; rfl
end

end
end Lk
end

section
set_option Elab.async false
set_option linter.all false
set_option maxRecDepth 100000
set_option maxHeartbeats 4000000
namespace Lk
open PySem PySem.Spec PyProof.Rows L2
noncomputable section
variable [Tbl] [Lnk]
/-! ## IV: calls of what a table holds, len(set(..)), repr, == of dicts -/
def mCallV (fns : Str → Option (Run × List DV)) (mf : DE) (n : Nat) (ms : DA) : DE := fun δ M => (mf δ M).bind fun r M1 => match r with
  | .v (.glo g) => match fns g with
    | some (run, dvs) => (ms δ M1).bind fun xs M2 => if xs.length = n then run (xs ++ dvs) M2 else .bad
    | none => .bad
  | _ => .bad
def FnsOk (X : Cx) (k n : Nat) (fns : Str → Option (Run × List DV)) : Prop := ∀ g run dvs, fns g = some (run, dvs) → FnFact X k (He.ga X.K g) n run dvs ∧ PySem.W.keepIn X.K (.ref (He.ga X.K g)) = true
section
variable {X : Cx} {W : WX} {f e : Expr} {es : List Expr} {pos : Pos} {mf : DE} {ms : DA} {k n : Nat} {fns : Str → Option (Run × List DV)}
theorem fns_nil : FnsOk X k n (fun _ => none) := fun _ _ _ h => by cases h
theorem fns_cons {g0 : Str} {run : Run} {dvs : List DV} (F : FnFact X k (He.ga X.K g0) n run dvs) (hk : PySem.W.keepIn X.K (.ref (He.ga X.K g0)) = true) (r : FnsOk X k n fns) : FnsOk X k n (fun g => if g = g0 then some (run, dvs) else fns g) := fun g run' dvs' h => by
  dsimp only at h
  by_cases e : g = g0
  · rw [if_pos e] at h; cases h; subst e; exact ⟨F, hk⟩
  · rw [if_neg e] at h; exact r g _ _ h
theorem iv_callV (F : FnsOk X k n fns) (hr : Room k X.A) (hG : X.A.guards = some []) (tk : L2N.Takes X W) (hf : PE X f (tI X.K W mf)) (ha : PA X (e :: es) (tIa X.K W ms)) (he : starEach (e :: es) X.env = (false, eval e X.env) :: starEach es X.env) (hpl : (backTo pos (starEach es X.env)).any (·.1) = false)
    (hc : eval (.Call f (e :: es) [] pos) X.env = (do callWith pos (← eval f X.env) [] (backTo pos (starEach (e :: es) X.env)) (backToKw pos (keywordEach [] X.env)))) : PE X (.Call f (e :: es) [] pos) (tI X.K W (mCallV fns mf n ms)) := by
  refine ⟨fun pins s σ H Q I ⟨ι, δ, M, hs, R, h⟩ => ?_⟩
  refine PyProof.Rows.Call_ (thn (hf.run pins s σ H _ I ⟨ι, δ, M, hs, R, Post.bind early_E hs R h⟩) fun u s1 ⟨v, H1, I1, rv, r, ι1, M1, A1, hs1, R1, hx, h1⟩ => ?_) hc
  try dsimp only at h1
  split at h1
  · rename_i g
    split at h1
    · rename_i run dvs ef
      obtain ⟨F, hk⟩ := F g run dvs ef
      have ev : v = .ref (He.ga X.K g) := by cases hx.1 with | v q => cases q; rfl
      subst ev
      obtain rfl : u = Value.ref (He.ga X.K g) := rv
      refine PySem.W.callWith_K (h₀ := X.base) I1.ok.mod.kin hk (thn (ha.run pos pins s1 σ H1 _ I1 ⟨ι1, δ, M1, hs1, R1, Post.bind early_E hs1 R1 h1⟩) fun us s2 ⟨vs, H2, I2, r2, xs, ι2, M2, A2, hs2, R2, hy, h2⟩ => ⟨I2.kIn, ?_⟩) he hpl
      have h2 : Post X.K W σ ι2 H2 (relE X.K) (if xs.length = n then run (xs ++ dvs) M2 else .bad) Q := h2
      split at h2
      · rename_i hn
        exact call_run F hr hG tk I2 r2 R2 hy hn h2
      · exact h2.elim
    · exact h1.elim
  · exact h1.elim
end
def tLenSetX (K : PySem.W.Frag) (ta : TE) : TE := fun σ H Q => ta σ H fun x H1 => ∃ l, ∃ xs : List Str, x = .ref l ∧ (SqL K H1 l (xs.map V.str) ∨ SqT K H1 l (xs.map V.str)) ∧ xs.length ≤ 1000 ∧ Q (.int (putAll [] xs).length) H1
def mLenSet (m : DE) : DE := fun δ M => (m δ M).bind fun r M1 => match asS M1 r with
  | some ds => match strsO ds with
    | some zs => if zs.length ≤ 1000 then .ok (.v (.int (putAll [] zs).length)) M1 else .bad
    | none => .bad
  | none => .bad
section
variable {X : Cx} {W : WX}
theorem pe_lenSetX {a : Expr} {ta : TE} {p p2 q pos : Pos} (hc : X.calm = true) (hg : Gl X "len") (hm : X.mg "len" = none) (hg2 : Gl X "set") (hm2 : X.mg "set" = none) (ha : PE X a ta)
    (na : starEach [a] X.env = (false, eval a X.env) :: starEach [] X.env) : PE X (.Call (.Name "len" p) [.Call (.Name "set" p2) [a] [] q] [] pos) (tLenSetX X.K ta) := by
  refine ⟨fun pins s σ H Q I h => ?_⟩
  refine PyProof.Rows.Call_ (ld_blt I hg hm boot_len ?_)
  refine PyProof.Rows.callWith_builtin1 (PyProof.Rows.args_cons ?_ rfl) rfl rfl
  refine PyProof.Rows.Call_ (ld_blt I hg2 hm2 boot_set ?_)
  refine PyProof.Rows.callWith_type1 (PyProof.Rows.args_cons (thn (ha.run pins s σ H _ I h) fun v s1 ⟨x, H1, I1, r1, q1⟩ => PyProof.Rows.args_nil ?_) na) na rfl
  obtain ⟨l, xs, rfl, hq, hl, q1⟩ := q1
  cases r1
  have few : xs.length + 1 < scanBound := by unfold scanBound; omega
  have fin : ∀ h' t, (∀ b o, b ≠ s1.heap.objs.size → ({ s1 with heap := s1.heap.push (freshO X.w) } : Shared).heap.get? b = some o → h'.get? b = some o) → TxAt X.prog X.w h' s1.heap.objs.size (putAll [] xs) →
      wpAny (model X.prog X.w) X.A (spliced (backTo pos (starEach [] X.env))) (fun vs s2 => wpAny (model X.prog X.w) X.A (call (.builtin "len") (.ref s1.heap.objs.size :: vs)) (EP X pins σ Q) X.xe s2) X.xe { s1 with heap := h', toks := t } := fun h' t keep R => by
    refine PyProof.Rows.args_nil ?_
    obtain ⟨D, at_, T, _⟩ := R.lies
    have I2 : Inv X pins σ H1 { s1 with heap := h', toks := t } := I1.kept fun b o e => keep b o (Nat.ne_of_lt (Heap.lt_size e)) (Heap.get?_push_of_some _ e)
    have sz : (putAll [] xs).length ≤ 1000 := by have := putAll_len xs []; simp only [List.length_nil] at this; omega
    exact call_len_set at_ ⟨rfl, rfl, rfl⟩ rfl T.fit (by rw [T.sz]; omega) ⟨.int (putAll [] xs).length, H1, I2.tok _, ⟨_, by rw [T.sz]⟩, q1⟩
  refine made_set fun A' same => ?_
  rcases hq with hq | hq
  · have ⟨its, vals, is_, _⟩ := I1.list hq
    have list_ := is_.isList
    have lt : l < s1.heap.objs.size := have ⟨_, h, _⟩ := list_; Heap.lt_size h
    exact init_texts (items := its.toArray) (xs := xs) (same.trans (I1.ok.hd hc)) (Heap.get?_push_size _ rfl) (Nat.ne_of_gt lt) (list_.push _) (by simpa using vals.strs) few fin
  · have ⟨its, vals, tup_, _⟩ := I1.tuple hq
    have lt : l < s1.heap.objs.size := have ⟨_, h, _⟩ := tup_; Heap.lt_size h
    exact init_textsT (items := its.toArray) (xs := xs) (same.trans (I1.ok.hd hc)) (Heap.get?_push_size _ rfl) (Nat.ne_of_gt lt) (tup_.push _) (by simpa using vals.strs) few fin
theorem iv_lenSet {a : Expr} {m : DE} {p p2 q pos : Pos} (hc : X.calm = true) (hm : X.mg "len" = none) (hm2 : X.mg "set" = none) (ha : PE X a (tI X.K W m)) (hg : Gl X "len" := by rfl) (hg2 : Gl X "set" := by rfl)
    (na : starEach [a] X.env = (false, eval a X.env) :: starEach [] X.env := by rfl) : PE X (.Call (.Name "len" p) [.Call (.Name "set" p2) [a] [] q] [] pos) (tI X.K W (mLenSet m)) := pe_of (pe_lenSetX hc hg hm hg2 hm2 ha na) fun σ H Q ⟨ι, δ, M, hs, R, h⟩ => by
  refine ⟨ι, δ, M, hs, R, (Post.bind early_E hs R h).imp ?_⟩
  rintro v H1 ⟨r, ι1, M1, A1, hs1, R1, hx, h1⟩
  split at h1
  · rename_i ds ed
    split at h1
    · rename_i zs ez
      split at h1
      · rename_i hl
        obtain ⟨l, xs, rfl, hq, t⟩ := asS_ok R1 hx.1 ed
        obtain rfl := strsO_ok t ez
        exact ⟨l, zs, rfl, hq, hl, Post.ret h1 R1 ⟨.v (.int _), trivial⟩⟩
      · exact h1.elim
    · exact h1.elim
  · exact h1.elim
end
/-! repr -/
def bRepr (M : DM) : List RV → Option RV
  | [r] => match pdR M r with
    | some d => if d.showable = true ∧ d.depth ≤ 60 ∧ d.hasDict = false ∧ (showQ d).length ≤ LIM then some (.v (.str ⟨⟨showQ d⟩⟩)) else none
    | none => none
  | _ => none
section
variable {X : Cx}
theorem cb_repr (hG : X.A.guards = some []) (hu : X.A.units + 64 < cLine) : CallR X (.builtin "repr") (rIs X.K bRepr) := by
  intro pins s σ H xs us Q I r ⟨ι, M, rs, q, R, hr, e, k⟩
  unfold bRepr at e
  split at e
  · rename_i r0
    split at e
    · rename_i d ed
      rw [← shown_len, ← shown_eq] at e
      split at e
      · rename_i hc
        cases e
        obtain ⟨v, rfl, hv⟩ := one_ hr
        obtain ⟨u, rfl, ru⟩ := vals1 r
        have h1 := hc.1
        have h2 := hc.2.1
        have h3 := lim_line hc.2.2.2
        have nd : ∀ {as : List Addr}, d.hasDict = true → sysModules ∉ as := fun z => by rw [hc.2.2.1] at z; cases z
        obtain ⟨as, rd⟩ := Dp.reads I d v u (pdR_ok R hv ed) ru
        have q : Q (.str d.shown) H := k _ H (Same.refl H) (.v (.str _)) trivial
        cases rd with
        | none => exact PySem.P.repr_of_none ⟨.str _, H, I.tok _, ⟨_, rfl⟩, q⟩
        | bool b => exact PySem.P.repr_of_bool ⟨.str _, H, I.tok _, ⟨_, rfl⟩, q⟩
        | int i t => exact PySem.P.repr_of_int (of_decide_eq_true h1) ⟨.str _, H, I.tok _, ⟨_, rfl⟩, q⟩
        | str x t => exact PySem.P.repr_of_str ⟨.str _, H, I.tok _, ⟨_, rfl⟩, q⟩ h3
        | list a b c e => exact repr_of_reads' (.list a b c e) h1 nd hG (by omega) (fun _ _ z => z) (fun h' u tk k => ⟨.str _, H, I.kept (t' := tk) k, ⟨_, rfl⟩, q⟩) h3
        | tuple a b c e => exact repr_of_reads' (.tuple a b c e) h1 nd hG (by omega) (fun _ _ z => z) (fun h' u tk k => ⟨.str _, H, I.kept (t' := tk) k, ⟨_, rfl⟩, q⟩) h3
        | dict a b c e f => exact repr_of_reads' (.dict a b c e f) h1 nd hG (by omega) (fun _ _ z => z) (fun h' u tk k => ⟨.str _, H, I.kept (t' := tk) k, ⟨_, rfl⟩, q⟩) h3
      · cases e
    · cases e
  · cases e
end
/-! == and != of two dicts of flat values -/
def asU (M : DM) : RV → Option (List (Key × DV))
  | .dic kvs => some kvs
  | .v (.obj n) => match M[n]? with
    | some (.dic false kvs) => some kvs
    | _ => none
  | _ => none
def opEqX (M : DM) (x y : RV) : Option Bool := match asU M x, asU M y with
  | some ks, some ls => if ks.length = ls.length ∧ (ks.all fun p => match valD ls p.1 with
    | some d => decide (d = p.2) && (flV d).isSome
    | none => false) = true then some true else none
  | _, _ => opEq M x y
def opCmpX (op : CmpOp) (M : DM) (x y : RV) : Option Bool := match op with
  | .Eq => opEqX M x y
  | .NotEq => (opEqX M x y).map (!·)
  | op => opCmp op M x y
section
variable {X : Cx} {W : WX} {a b : Expr} {ma mb : DE} {pos : Pos}
theorem asU_ok {K : PySem.W.Frag} {ι : List Addr} {H : Hp} {M : DM} (R : Rep K ι H M) {r : RV} {v : V} {kvs : List (Key × DV)} (h : RVR K ι H r v) (e : asU M r = some kvs) : ∃ a es, v = .ref a ∧ H a = some (.dK es) ∧ FR K ι H kvs es := by
  cases h with
  | dic n g t => cases e; exact ⟨_, _, rfl, g, t⟩
  | lst n g t => cases e
  | v h => cases h with
    | @obj n a hn =>
      simp only [asU] at e
      split at e
      · rename_i kvs' hm
        cases e
        obtain ⟨u, g, es, rfl, t⟩ := R.at_ _ _ _ hn hm
        exact ⟨a, es, rfl, g, t⟩
      · cases e
    | _ => cases e
theorem FR.back {κ : Type} {K : PySem.W.Frag} {ι : List Addr} {H : Hp} {kvs : List (κ × DV)} {es : List (κ × V)} (h : FR K ι H kvs es) {q : κ × V} (hq : q ∈ es) : ∃ p ∈ kvs, p.1 = q.1 ∧ VR K ι H p.2 q.2 := by
  induction h with
  | nil => cases hq
  | @cons p q' _ _ hh _ ih =>
    rcases List.mem_cons.mp hq with rfl | z
    · exact ⟨p, List.mem_cons_self, hh⟩
    · obtain ⟨p', h1, h2⟩ := ih z; exact ⟨p', List.mem_cons_of_mem _ h1, h2⟩
theorem dicts_eq {K : PySem.W.Frag} {ι : List Addr} {H : Hp} {ks ls : List (Key × DV)} {es fs : List (Key × V)} (h1 : FR K ι H ks es) (h2 : FR K ι H ls fs) (c : (ks.all fun p => match valD ls p.1 with
    | some d => decide (d = p.2) && (flV d).isSome
    | none => false) = true) : ∀ q ∈ es, valV fs q.1 = some q.2 ∧ flatB q.2 = true := fun q hq => by
  obtain ⟨p, hp, e1, r⟩ := h1.back hq
  have z := List.all_eq_true.mp c p hp
  try dsimp only at z
  split at z
  · rename_i d ed
    obtain ⟨z1, z2⟩ := Bool.and_eq_true_iff.mp z
    obtain ⟨x, ex⟩ := Option.isSome_iff_exists.mp z2
    have e2 := of_decide_eq_true z1
    obtain ⟨u, eu, ru⟩ := valD_some h2 ed
    obtain ⟨g1, g2⟩ := flV_ok ru ex
    rw [← e2] at r
    obtain ⟨g3, _⟩ := flV_ok r ex
    rw [← e1, eu, g3, ← g1]
    refine ⟨rfl, ?_⟩
    rw [g1]
    cases x <;> first | rfl | cases g2
  · cases z
theorem opEqX_ok (hu : X.A.units + 65 < cLine) : OpR X (compareOp .Eq) (rI2b X.K opEqX) := by
  intro pins s σ H x y v u Q I rx ry ⟨ι, M, a, b, r, R, ha, hb, e, k⟩
  unfold opEqX at e
  split at e
  · rename_i ks ls e1 e2
    split at e
    · rename_i hc
      cases e
      obtain ⟨p, es, rfl, g1, t1⟩ := asU_ok R ha e1
      obtain ⟨q, fs, rfl, g2, t2⟩ := asU_ok R hb e2
      exact op_eq_dictA (by omega) pins s σ H _ _ v u Q I rx ry ⟨p, q, es, fs, rfl, rfl, g1, g2, by rw [← FR.length t1, ← FR.length t2]; exact hc.1, dicts_eq t1 t2 hc.2, k⟩
    · cases e
  · exact opEq_ok hu pins s σ H x y v u Q I rx ry ⟨ι, M, a, b, r, R, ha, hb, e, k⟩
theorem opNeX_ok (hu : X.A.units + 65 < cLine) : OpR X (compareOp .NotEq) (rI2b X.K fun M x y => (opEqX M x y).map (!·)) := by
  intro pins s σ H x y v u Q I rx ry ⟨ι, M, a, b, r, R, ha, hb, e, k⟩
  simp only [Option.map_eq_some_iff] at e
  obtain ⟨r', e, rfl⟩ := e
  unfold opEqX at e
  split at e
  · rename_i ks ls e1 e2
    split at e
    · rename_i hc
      cases e
      obtain ⟨p, es, rfl, g1, t1⟩ := asU_ok R ha e1
      obtain ⟨q, fs, rfl, g2, t2⟩ := asU_ok R hb e2
      exact op_ne_dictA (by omega) pins s σ H _ _ v u Q I rx ry ⟨p, q, es, fs, rfl, rfl, g1, g2, by rw [← FR.length t1, ← FR.length t2]; exact hc.1, dicts_eq t1 t2 hc.2, k⟩
    · cases e
  · exact opNe_ok hu pins s σ H x y v u Q I rx ry ⟨ι, M, a, b, _, R, ha, hb, by show (opEq M a b).map (fun x => !x) = _; rw [e]; rfl, k⟩
theorem opCmpX_ok (hu : X.A.units + 65 < cLine) (op : CmpOp) : OpR X (compareOp op) (rI2b X.K (opCmpX op)) := by
  cases op with
  | Eq => exact opEqX_ok hu
  | NotEq => exact opNeX_ok hu
  | _ => exact opCmp_ok hu _
theorem iv_cmpX {op : CmpOp} (hu : X.A.units + 65 < cLine) (ha : PE X a (tI X.K W ma)) (hb : PE X b (tI X.K W mb)) (hm : behindInMarks op b = false) : PE X (.Compare a [op] [b] pos) (tI X.K W (mCmp (opCmpX op) ma mb)) := pe_of (pe_cmpR (opCmpX_ok hu op) ha hb hm) fun _ _ _ => tI_cmp
theorem iv_cmpXT {op : CmpOp} (hu : X.A.units + 65 < cLine) (ha : PE X a (tI X.K W ma)) (hb : PE X b (tI X.K W mb)) (hm : behindInMarks op b = false) : PT X (.Compare a [op] [b] pos) (tIt X.K W (mCmpT (opCmpX op) ma mb)) := pt_of (pt_cmpR (opCmpX_ok hu op) ha hb hm) fun _ _ _ => tI_cmpT
end

end
end Lk
end

section
set_option Elab.async false
set_option linter.all false
set_option maxRecDepth 100000
set_option maxHeartbeats 4000000
namespace Lk
open PySem PySem.Spec PyProof.Rows L2
noncomputable section
variable [Tbl] [Lnk]
/-! ## IV: sorted(xs, key = f) -/
/-! a stable sort by insertion -/
section
variable {α β : Type}
def insK (lt : α → α → Bool) (x : α) : List α → List α
  | [] => [x]
  | y :: ys => if lt y x = true then y :: insK lt x ys else x :: y :: ys
def isrtK (lt : α → α → Bool) : List α → List α
  | [] => []
  | x :: xs => insK lt x (isrtK lt xs)
variable {lt : α → α → Bool}
theorem insK_perm (x : α) : ∀ l : List α, (insK lt x l).Perm (x :: l)
  | [] => List.Perm.refl _
  | y :: ys => by
    unfold insK
    split
    · exact ((insK_perm x ys).cons y).trans (List.Perm.swap x y ys)
    · exact List.Perm.refl _
theorem isrtK_perm : ∀ l : List α, (isrtK lt l).Perm l
  | [] => List.Perm.refl _
  | x :: xs => (insK_perm x _).trans ((isrtK_perm xs).cons x)
theorem insK_srtd (O : SrtO.Swo lt) (x : α) : ∀ l : List α, SrtO.Srtd lt l → SrtO.Srtd lt (insK lt x l)
  | [], _ => SrtO.srtd_one x
  | y :: ys, h => by
    have hy := List.pairwise_cons.mp h
    unfold insK
    split
    · rename_i e
      refine List.pairwise_cons.mpr ⟨fun z hz => ?_, insK_srtd O x ys hy.2⟩
      rcases List.mem_cons.mp ((insK_perm x ys).mem_iff.mp hz) with rfl | hz
      · exact O.asym _ _ e
      · exact hy.1 z hz
    · rename_i e
      have e : lt y x = false := by cases q : lt y x <;> simp_all
      refine List.pairwise_cons.mpr ⟨fun z hz => ?_, h⟩
      rcases List.mem_cons.mp hz with rfl | hz
      · exact e
      · exact O.tr x y z e (hy.1 z hz)
theorem isrtK_srtd (O : SrtO.Swo lt) : ∀ l : List α, SrtO.Srtd lt (isrtK lt l)
  | [] => List.Pairwise.nil
  | x :: xs => insK_srtd O x _ (isrtK_srtd O xs)
theorem insK_cls (O : SrtO.Swo lt) (x z : α) : ∀ l : List α, (insK lt x l).filter (SrtO.eqv lt z) = (x :: l).filter (SrtO.eqv lt z)
  | [] => rfl
  | y :: ys => by
    unfold insK
    split
    · rename_i e
      have ih := insK_cls O x z ys
      rw [List.filter_cons, ih, List.filter_cons, List.filter_cons, List.filter_cons]
      by_cases a : SrtO.eqv lt z x = true
      · by_cases b : SrtO.eqv lt z y = true
        · obtain ⟨a1, a2⟩ := SrtO.eqv_iff.mp a
          obtain ⟨b1, b2⟩ := SrtO.eqv_iff.mp b
          have := O.tr x z y a1 b2
          rw [e] at this; cases this
        · simp [a, b]
      · simp [a]
    · rfl
theorem isrtK_cls (O : SrtO.Swo lt) (z : α) : ∀ l : List α, (isrtK lt l).filter (SrtO.eqv lt z) = l.filter (SrtO.eqv lt z)
  | [] => rfl
  | x :: xs => by
    show (insK lt x (isrtK lt xs)).filter _ = _
    rw [insK_cls O, List.filter_cons, List.filter_cons, isrtK_cls O z xs]
/-- there is one stable sort -/
theorem stable_one (O : SrtO.Swo lt) : ∀ {a b : List α}, SrtO.Srtd lt a → SrtO.Srtd lt b → a.Perm b → (∀ z, a.filter (SrtO.eqv lt z) = b.filter (SrtO.eqv lt z)) → a = b
  | [], b, _, _, p, _ => (List.nil_perm.mp p).symm
  | x :: a, [], _, _, p, _ => absurd p.length_eq (by simp)
  | x :: a, y :: b, sa, sb, p, f => by
    have ha := List.pairwise_cons.mp sa
    have hb := List.pairwise_cons.mp sb
    have xy : lt y x = false := by
      rcases List.mem_cons.mp (p.mem_iff.mpr List.mem_cons_self) with e | m
      · rw [e]; exact O.refl x
      · exact ha.1 y m
    have yx : lt x y = false := by
      rcases List.mem_cons.mp (p.mem_iff.mp List.mem_cons_self) with e | m
      · rw [e]; exact O.refl y
      · exact hb.1 x m
    have h := f x
    rw [List.filter_cons_of_pos (SrtO.eqv_iff.mpr ⟨O.refl x, O.refl x⟩), List.filter_cons_of_pos (SrtO.eqv_iff.mpr ⟨yx, xy⟩)] at h
    have e := (List.cons.inj h).1
    subst e
    rw [stable_one O ha.2 hb.2 ((List.perm_cons x).mp p) fun z => ?_]
    have g := f z
    rw [List.filter_cons, List.filter_cons] at g
    split at g
    · exact (List.cons.inj g).2
    · exact g
theorem stb_isrt (O : SrtO.Swo lt) {out l : List α} (s : SrtO.Srtd lt out) (b : SrtO.Stb lt out l) : out = isrtK lt l :=
  stable_one O s (isrtK_srtd O l) (b.perm.trans (isrtK_perm l).symm) fun z => (b.cls z).trans (isrtK_cls O z l).symm
theorem insK_pair {R : α → β → Prop} {lt' : β → β → Bool} (h : ∀ x x' y y', R x y → R x' y' → lt x x' = lt' y y') {x : α} {y : β} (r : R x y) : ∀ {as : List α} {bs : List β}, Paired R as bs → Paired R (insK lt x as) (insK lt' y bs)
  | _, _, .nil => .cons r .nil
  | _, _, .cons (a := a) (b := b) q t => by
    unfold insK
    rw [h a x b y q r]
    split
    · exact .cons q (insK_pair h r t)
    · exact .cons r (.cons q t)
theorem isrtK_pair {R : α → β → Prop} {lt' : β → β → Bool} (h : ∀ x x' y y', R x y → R x' y' → lt x x' = lt' y y') : ∀ {as : List α} {bs : List β}, Paired R as bs → Paired R (isrtK lt as) (isrtK lt' bs)
  | _, _, .nil => .nil
  | _, _, .cons q t => insK_pair h q (isrtK_pair h t)
end

end
end Lk
end

section
set_option Elab.async false
set_option linter.all false
set_option maxRecDepth 100000
set_option maxHeartbeats 4000000
namespace Lk
open PySem PySem.Spec PyProof.Rows L2
noncomputable section
variable [Tbl] [Lnk]
def sv : Value → List Nat
  | .str a _ => a.cps.toList
  | _ => []
def kvD : DV → List Nat
  | .str a => a.cps.toList
  | _ => []
def strLt (x y : Value) : Bool := decide (sv x < sv y)
def ltD (p q : DV × DV) : Bool := decide (kvD p.1 < kvD q.1)
theorem swo_str : SrtO.Swo strLt := by
  refine ⟨fun x y h => ?_, fun x y z h1 h2 => ?_⟩
  · exact decide_eq_false (List.lt_asymm (of_decide_eq_true h))
  · refine decide_eq_false fun h3 => ?_
    have a : sv x ≤ sv y := of_decide_eq_false h1
    have b : sv y ≤ sv z := of_decide_eq_false h2
    exact (List.le_trans a b : sv x ≤ sv z) h3
/-- the keys, one call after the other -/
def keysD (run : Run) (dvs : List DV) : List DV → List DV → DM → Option (List DV × DM)
  | [], acc, M => some (acc, M)
  | d :: ds, acc, M => match run (d :: dvs) M with
    | .ok r M1 => keysD run dvs ds (acc ++ [(mat M1 r).1]) (mat M1 r).2
    | _ => none
def sortKD (ks ds : List DV) : Option (List DV) := if ks.length ≤ 1 then some ds else if (strsO ks).isSome = true then some ((isrtK ltD (ks.zip ds)).map (·.2)) else none
section
variable {X : Cx} {pins : List (Addr × Obj)} {σ : L2.St} {H H0 : Hp} {s : Shared} {ι : List Addr} {M M2 : DM} {k : Nat} {g a : Addr} {run : Run} {dvs ds ks out : List DV} {xs : List V} {us : List Value}
theorem key_call {A' : Around} {d : DV} {v : V} {u : Value} {Q : VK} (F : FnFact X k g 1 run dvs) (hr : Room k A') (hG : A'.guards = some []) (e0 : Env0 X.prog X.w X.K X.mg X.base A' X.stack s H) (I : Inv X pins σ H s) (r : RelV v u) (R : Rep X.K ι H M) (hv : VR X.K ι H d v)
    (h : Post X.K W0 σ ι H (relE X.K) (run (d :: dvs) M) Q) : wpAny (model X.prog X.w) A' (call (.ref g) [u]) (EP X pins σ Q) (fun _ _ => False) s := by
  obtain ⟨fd, ps, ds, vds, F, hb, hd, rd, hl⟩ := F
  have all : Vals (v :: vds) (u :: ds) := .cons r rd
  have len : (u :: ds).length = ps.length := by rw [← all.length, List.length_cons, ← (hd ι H).length]; omega
  have want : spI X.K ps.length run (v :: vds) H Q (fun _ _ _ => False) := ⟨by rw [all.length]; exact len, ι, M, d :: dvs, R, .cons hv (hd ι H), h⟩
  refine wpAny_call (codeAny_mono (F.run A' X.stack s H ⟨[u], []⟩ _ _ Q _ hr hG e0 (hb s [u] I.kIn len) all want) fun r s' done => ?_)
  cases r with
  | error e =>
    obtain ⟨_, _, _, _, _, _, _, _, _, _, _, _, z⟩ := done
    exact z.elim
  | ok fl => cases fl with
    | ret u => exact I.after done
    | next => exact False.elim done
    | brk => exact False.elim done
    | cont => exact False.elim done
theorem not_new {ι ι' : List Addr} {H H' : Hp} (A : Aft ι H ι' H') {b : Addr} {o : HO} (n : b ∉ ι) (h : H b = some o) (nt : ∀ ps, o ≠ .tbl ps := by intro _ z; cases z) : b ∉ ι' := fun m => by
  obtain ⟨new, rfl, hn⟩ := A.ext
  rcases List.mem_append.mp m with z | z
  · exact n z
  · exact free_no (hn b z) h nt
theorem VRs.at_ {K : PySem.W.Frag} {ι : List Addr} {H : Hp} : ∀ {ds : List DV} {vs : List V} {us : List Value} {i : Nat} {u : Value}, VRs K ι H ds vs → Vals vs us → us[i]? = some u → ∃ d v, ds[i]? = some d ∧ VR K ι H d v ∧ RelV v u ∧ ds.drop i = d :: ds.drop (i + 1)
  | _, _, _, i, u, .nil, .nil, e => by simp at e
  | d :: ds, v :: vs, w :: us, 0, u, .cons h _, .cons r _, e => by simp at e; subst e; exact ⟨d, v, rfl, h, r, rfl⟩
  | d :: ds, v :: vs, w :: us, i + 1, u, .cons _ t, .cons _ q, e => by
    obtain ⟨d', v', e1, h, r, e2⟩ := VRs.at_ t q (by simpa using e)
    exact ⟨d', v', by simpa using e1, h, r, by simpa using e2⟩
/-- what is called as a key: at each later state, with one value -/
def KeyCall (X : Cx) (pins : List (Addr × Obj)) (σ : L2.St) (ι0 : List Addr) (H0 : Hp) (f : Value) (run : Run) (dvs : List DV) : Prop := ∀ (ι : List Addr) (H : Hp) (M : DM) (s : Shared) (d : DV) (v : V) (u : Value) (Q : VK), Inv X pins σ H s → Aft ι0 H0 ι H → Rep X.K ι H M → VR X.K ι H d v → RelV v u →
  Post X.K W0 σ ι H (relE X.K) (run (d :: dvs) M) Q → wpAny (model X.prog X.w) X.A.in1.in1 (call f [u]) (EP X pins σ Q) (fun _ _ => False) s
theorem keycall_of {ι0 : List Addr} (F : FnFact X k g 1 run dvs) (hr : Room (k + 2) X.A) (hG : X.A.guards = some []) : KeyCall X pins σ ι0 H0 (.ref g) run dvs := fun ι H M s d v u Q I A R hv rv h => key_call (A' := X.A.in1.in1) F hr.in1.in1 hG I.env0.in1.in1 I rv R hv h
/-- the keys' loop -/
structure Lp (X : Cx) (pins : List (Addr × Obj)) (σ : L2.St) (ι : List Addr) (H0 : Hp) (run : Run) (dvs ds ks : List DV) (M2 : DM) (a kS : Addr) (e1 : Nat) (xs : List V) (i : Nat) (s' : Shared) : Prop where
  it : ∃ ι' H' M' acc kv, VRs X.K ι' H' ds xs ∧ Inv X pins σ H' s' ∧ Aft ι H0 ι' H' ∧ Rep X.K ι' H' M' ∧ H' a = some (.ext fun h => h.get? a = some (seqObj "list" #[] e1)) ∧ H' kS = some (.lst kv) ∧ VRs X.K ι' H' acc kv ∧ acc.length = i ∧ a ∉ ι' ∧ kS ∉ ι' ∧ keysD run dvs (ds.drop i) acc M' = some (ks, M2)
theorem sorted_pairs {K : PySem.W.Frag} {ι' : List Addr} {H' : Hp} : ∀ {ks ds : List DV} {kv xs : List V} {its us : List Value}, VRs K ι' H' ks kv → Vals kv its → VRs K ι' H' ds xs → Vals xs us → (∀ d ∈ ks, ∃ z, d = .str z) →
    Paired (fun (p : DV × DV) (q : Value × Value) => kvD p.1 = sv q.1 ∧ ∃ v, VR K ι' H' p.2 v ∧ RelV v q.2) (ks.zip ds) (its.zip us)
  | _, _, _, _, _, _, .nil, .nil, _, _, _ => .nil
  | _ :: _, _, _, _, _, _, .cons h t, .cons r q, .nil, .nil, _ => .nil
  | k :: ks, d :: ds, _, _, _, _, .cons h t, .cons r q, .cons h2 t2, .cons r2 q2, al => by
    refine .cons ⟨?_, _, h2, r2⟩ (sorted_pairs t q t2 q2 fun d hd => al d (List.mem_cons_of_mem _ hd))
    obtain ⟨z, rfl⟩ := al k List.mem_cons_self
    cases h
    obtain ⟨t, rfl⟩ := r
    rfl
theorem unzip_out {K : PySem.W.Frag} {ι' : List Addr} {H' : Hp} {ps : List (DV × DV)} {qs : List (Value × Value)} (h : Paired (fun (p : DV × DV) (q : Value × Value) => kvD p.1 = sv q.1 ∧ ∃ v, VR K ι' H' p.2 v ∧ RelV v q.2) ps qs) : ∃ ys, VRs K ι' H' (ps.map (·.2)) ys ∧ Vals ys (qs.map (·.2)) := by
  induction h with
  | nil => exact ⟨[], .nil, .nil⟩
  | cons h _ ih =>
    obtain ⟨_, v, h1, h2⟩ := h
    obtain ⟨ys, h3, h4⟩ := ih
    exact ⟨v :: ys, .cons h1 h3, .cons h2 h4⟩
theorem strs_all : ∀ {ks : List DV}, (strsO ks).isSome = true → ∀ d ∈ ks, ∃ z, d = .str z
  | k :: ks, e, d, hd => by
    unfold strsO at e
    simp only [mapO] at e
    cases k with
    | str z =>
      rcases List.mem_cons.mp hd with rfl | hd
      · exact ⟨z, rfl⟩
      · refine strs_all (ks := ks) ?_ d hd
        split at e
        · rename_i b bs e1 e2
          show (mapO _ ks).isSome = true
          rw [e2]; rfl
        · cases e
    | _ => simp at e
theorem vals_strs {K : PySem.W.Frag} {ι' : List Addr} {H' : Hp} : ∀ {ks : List DV} {kv : List V} {its : List Value}, VRs K ι' H' ks kv → Vals kv its → (∀ d ∈ ks, ∃ z, d = .str z) → ∃ ss, StrsAre its ss
  | _, _, _, .nil, .nil, _ => ⟨[], .nil⟩
  | k :: ks, _, _, .cons h t, .cons r q, al => by
    obtain ⟨ss, h2⟩ := vals_strs t q fun d hd => al d (List.mem_cons_of_mem _ hd)
    obtain ⟨z, rfl⟩ := al k List.mem_cons_self
    cases h
    obtain ⟨t, rfl⟩ := r
    exact ⟨z :: ss, .cons z t h2⟩
theorem strs_mem : ∀ {its : List Value} {ss : List Str}, StrsAre its ss → ∀ v ∈ its, ∃ z t, v = .str z t
  | _, _, .nil, _, h => by cases h
  | _, _, .cons x t q, v, h => by
    rcases List.mem_cons.mp h with rfl | h
    · exact ⟨x, t, rfl⟩
    · exact strs_mem q v h
theorem tabs_updE {T : List (Addr × Str)} {φ : Heap → Prop} {u : HO} {zs : Array Value} {n : Nat} (I : Inv X pins σ H s) (g : H a = some (.ext φ)) (hl : s.heap.get? a = some (seqObj "list" zs n)) (t : LamX.Tabs T H) : LamX.Tabs T (upd H a u) := fun p hp => by
  obtain ⟨ps, h1, h2, h3⟩ := t p hp
  have ne : p.1 ≠ a := fun e => by rw [e, g] at h1; cases h1
  refine ⟨ps, by rw [upd_ne ne]; exact h1, h2, fun pos cv hc => ?_⟩
  obtain ⟨c, e1, e2⟩ := h3 pos cv hc
  refine ⟨c, e1, ?_⟩
  have nc : c ≠ a := fun e => by
    obtain ⟨⟨oc, vs, tt, q1, q2, _⟩, _⟩ := I.hok c _ e2
    rw [e, hl] at q1
    cases q1
    cases q2
  rw [upd_ne nc]; exact e2
theorem Rep.offT {K : PySem.W.Frag} {ι : List Addr} {H : Hp} {M : DM} (R : Rep K ι H M) {D : Addr} {u u' : HO} (hD : D ∉ ι) (g : H D = some u) (nt : ∀ xs, u ≠ .tup xs ∧ ∀ o, u ≠ .frz o (.tup xs)) (tb : LamX.Tabs (Tbl.t K) (upd H D u')) (x : Lnk.inv K ι (upd H D u')) : Rep K ι (upd H D u') M ∧ ∀ a xs, SqT K H a xs → SqT K (upd H D u') a xs := by
  have ht : ∀ a xs, SqT K H a xs → SqT K (upd H D u') a xs := fun a xs h => by
    rcases h with (h | ⟨o, h⟩) | h
    · exact .inl (.inl (by rw [upd_ne (fun (z : a = D) => (nt xs).1 (by rw [z, g] at h; exact Option.some.inj h))]; exact h))
    · exact .inl (.inr ⟨o, by rw [upd_ne (fun (z : a = D) => (nt xs).2 o (by rw [z, g] at h; exact Option.some.inj h))]; exact h⟩)
    · exact .inr h
  refine ⟨⟨R.len, R.nd, R.fl, fun n a o h1 h2 => ?_, tb, x⟩, ht⟩
  obtain ⟨v, e, q⟩ := R.at_ n a o h1 h2
  exact ⟨v, by rw [upd_ne (fun (z : a = D) => hD (by rw [← z]; exact List.mem_of_getElem? h1))]; exact e, q.go (fun _ _ z => z) ht⟩
theorem key_tree {n : Nat} {P : PySem.Fin → Shared → Prop} {E : Value → Shared → Prop} (hcall : KeyCall X pins σ ι H0 (.ref g) run dvs) (I : Inv X pins σ H s) (hH : H a = some (.lst xs)) (ho : s.heap.get? a = some (seqObj "list" us.toArray n)) (hv : Vals xs us) (R : Rep X.K ι H M) (na : a ∉ ι)
    (A0 : Aft ι H0 ι H) (h0 : Free H0 a) (t : VRs X.K ι H ds xs) (few : ds.length ≤ LIM) (ek : keysD run dvs ds [] M = some (ks, M2)) (es : sortKD ks ds = some out)
    (xi : ∀ ι' H', Aft ι H0 ι' H' → Lnk.inv X.K ι' H') (done : ∀ ι' H' ys s', Inv X pins σ H' s' → Aft ι H0 ι' H' → Rep X.K ι' H' M2 → a ∉ ι' → H' a = some (.lst ys) → VRs X.K ι' H' out ys → P (.done (.ret .none)) s') :
    wpAny (model X.prog X.w) X.A.in1.in1 (PyProof.Rows.ksk_tree a (.ref g) false) P E s := by
  have lu : us.length = ds.length := by rw [← hv.length, ← t.length]
  have lus : us.length ≤ sizeLine := by rw [lu]; exact lim_line few
  have ha : a < s.heap.objs.size := Heap.lt_size ho
  obtain ⟨e1, ho1⟩ : ∃ e1, (s.heap.update a (Obj.mapSeq fun _ => (#[] : Array Value))).get? a = some (seqObj "list" #[] e1) := ⟨_, PyProof.Rows.get?_update_seq ho fun _ => #[]⟩
  have I1 : Inv X pins σ (upd H a (.ext fun h => h.get? a = some (seqObj "list" #[] e1))) { s with heap := s.heap.update a (Obj.mapSeq fun _ => (#[] : Array Value)), toks := s.toks } :=
    I.write (x := a) (e := a) (t' := s.toks) (by rw [hH]; trivial) (.inl rfl) (fun b u hb hu => (Heap.get?_update_other s.heap _ (Ne.symm hb)).trans hu) ⟨_, ho1⟩ ⟨ho1, ⟨_, ho1⟩, fun h1 h2 p m => m _ p⟩
  have O1 := R.off (u' := .ext fun h => h.get? a = some (seqObj "list" #[] e1)) na hH (fun z => z.2.1 _ rfl) fun xs => ⟨(fun z => by cases z), (fun _ z => by cases z)⟩
  unfold PyProof.Rows.ksk_tree
  refine wpAny_bind (listItems_at ho rfl ?_)
  refine wpAny_bind (listUpdate_at ho rfl ?_ (by rw [List.size_toArray]; exact lus) (Nat.zero_le _))
  refine wpAny_bind (seqEpoch_at ho1 rfl ?_)
  refine wpAny_bind (wpAny_newTuple ?_ (by show us.length ≤ _; exact lus))
  have I2 : Inv X pins σ (upd H a (.ext fun h => h.get? a = some (seqObj "list" #[] e1))) { s with heap := (s.heap.update a (Obj.mapSeq fun _ => (#[] : Array Value))).push { cls := .type "tuple", data := .seq us.toArray }, toks := s.toks } := I1.kept (t' := s.toks) fun b o e => Heap.get?_push_of_some _ e
  refine wpAny_bind (wpAny_newList ?_ (Nat.zero_le _))
  refine wpAny_holding ?_
  have I3 := I2.lnew (ys := []) (its := []) (t' := s.toks) .nil (Nat.zero_le _)
  have fk := I2.fresh
  have hkS : ∀ kS, kS = ((s.heap.update a (Obj.mapSeq fun _ => (#[] : Array Value))).push { cls := .type "tuple", data := .seq us.toArray }).objs.size → upd H a (.ext fun h => h.get? a = some (seqObj "list" #[] e1)) kS = none →
      Inv X pins σ (upd (upd H a (.ext fun h => h.get? a = some (seqObj "list" #[] e1))) kS (.lst [])) { s with heap := ((s.heap.update a (Obj.mapSeq fun _ => (#[] : Array Value))).push { cls := .type "tuple", data := .seq us.toArray }).push { cls := .type "list", data := .seq ([] : List Value).toArray }, toks := s.toks } →
      wpAny (model X.prog X.w) X.A.in1.in1 (PyProof.Rows.ksk_rest a (.ref g) false us.toArray e1 (.ref kS)) P E { s with heap := ((s.heap.update a (Obj.mapSeq fun _ => (#[] : Array Value))).push { cls := .type "tuple", data := .seq us.toArray }).push { cls := .type "list", data := .seq ([] : List Value).toArray }, toks := s.toks } := by
    intro kS _ fk I3
    generalize ({ s with heap := ((s.heap.update a (Obj.mapSeq fun _ => (#[] : Array Value))).push { cls := .type "tuple", data := .seq us.toArray }).push { cls := .type "list", data := .seq ([] : List Value).toArray }, toks := s.toks } : Shared) = s3 at I3 ⊢
    have SK : Same (upd H a (.ext fun h => h.get? a = some (seqObj "list" #[] e1))) (upd (upd H a (.ext fun h => h.get? a = some (seqObj "list" #[] e1))) kS (.lst [])) := Same.new fk
    have R3 := O1.1.same SK
    have nak : kS ≠ a := fun z => by rw [z, upd_same] at fk; cases fk
    have nk : kS ∉ ι := fun m => O1.1.there m fk
    have t3 : VRs X.K ι (upd (upd H a (.ext fun h => h.get? a = some (seqObj "list" #[] e1))) kS (.lst [])) ds xs := VRs.aft O1.1 (Aft.same SK) (t.go (fun _ _ z => z) O1.2)
    have A3 : Aft ι H0 ι (upd (upd H a (.ext fun h => h.get? a = some (seqObj "list" #[] e1))) kS (.lst [])) := by
      have q1 : Aft ι H0 ι (upd H a (.ext fun h => h.get? a = some (seqObj "list" #[] e1))) := Aft.off A0 h0
      exact q1.trans O1.1 (Aft.same SK)
    have ga : upd (upd H a (.ext fun h => h.get? a = some (seqObj "list" #[] e1))) kS (.lst []) a = some (.ext fun h => h.get? a = some (seqObj "list" #[] e1)) := by rw [upd_ne (Ne.symm nak), upd_same]
    have gk : upd (upd H a (.ext fun h => h.get? a = some (seqObj "list" #[] e1))) kS (.lst []) kS = some (.lst []) := upd_same
    have h0k : Free H0 kS := A0.gone (.inl (by rw [upd_ne nak] at fk; exact fk))
    generalize upd (upd H a (.ext fun h => h.get? a = some (seqObj "list" #[] e1))) kS (.lst []) = H3 at I3 R3 t3 A3 ga gk SK ⊢
    unfold PyProof.Rows.ksk_rest
    refine wpAny_bind (wpAny_rule ?_)
    first
      | rw [List.forIn_toArray]
      | (rw [← Array.forIn_toList]; simp only [List.toList_toArray])
      | rw [← Array.forIn_toList]
    refine wpAny_bind (PyProof.Rows.ksk_fold (fun i s' => Lp X pins σ ι H0 run dvs ds ks M2 a kS e1 xs i s') us 0 s3 ⟨ι, H3, M, [], [], t3, I3, A3, R3, ga, gk, .nil, rfl, na, nk, ek⟩ ?step ?done)
    case step =>
      rintro j x s' hx ⟨ι', H', M', acc, kv, tx', I', A', R', ga', gk', tk', hl, na', nk', e'⟩
      simp only [Nat.zero_add] at hl e' ⊢
      obtain ⟨d, v, hd, hv', rv, ed⟩ := VRs.at_ tx' hv hx
      rw [ed] at e'
      simp only [keysD] at e'
      split at e'
      · rename_i r M1 er
        refine wpAny_bind (wpAny_attempt (wpAny_mono (hcall ι' H' M' s' d v x (fun w H4 => ∃ ι4, Aft ι' H' ι4 H4 ∧ Rep X.K ι4 H4 M1 ∧ RVR X.K ι4 H4 r w ∧ Fresh H' r w) I' A' R' hv' rv ?_) (fun u s'' he => ?_) fun _ _ hF => hF.elim))
        · rw [er]
          exact fun ι4 w H4 A4 R4 r4 => ⟨ι4, A4, R4, r4.1, r4.2⟩
        · obtain ⟨w, H4, I4, rw4, ι4, A4, R4, r4, f4⟩ := he
          obtain ⟨ι5, A5, R5, v5⟩ := mat_ok A4 R4 r4 f4
          try dsimp only
          have gk4 := A5.fr kS nk' _ gk'
          have ga4 := A5.fr a na' _ ga'
          have na5 := not_new A5 na' ga'
          have nk5 := not_new A5 nk' gk'
          obtain ⟨zk, its, m, rel, lk, hk⟩ := I4.lstM gk4
          have tk5 := VRs.aft R' A5 tk'
          have short : kv.length < us.length := by
            have := (List.getElem?_eq_some_iff.mp hx).1
            rw [← tk'.length]; omega
          refine wpAny_bind (listUpdate_at hk rfl ?_ (by rw [List.size_toArray, ← lk]; exact zk) (by rw [Array.size_push, List.size_toArray, ← lk]; omega))
          have I5 : Inv X pins σ (upd H4 kS (.lst (kv ++ [w]))) { s'' with heap := s''.heap.update kS (Obj.mapSeq (·.push u)), toks := s''.toks } := I4.lset (its' := its ++ [u]) gk4 hk (by simp) (rel.append (.cons rw4 .nil)) (by rw [List.length_append]; simp; omega)
          have O5 := R5.off (u' := .lst (kv ++ [w])) nk5 gk4 (fun z => z.2.1 _ rfl) fun xs => ⟨(fun z => by cases z), (fun _ z => by cases z)⟩
          refine wpAny_pure ⟨rfl, ι5, _, _, _, _, (VRs.aft R' A5 tx').go (fun _ _ z => z) O5.2, I5, Aft.off (A'.trans R' A5) h0k, O5.1, ?_, upd_same, (tk5.append (.cons v5 .nil)).go (fun _ _ z => z) O5.2, by rw [List.length_append, hl]; rfl, na5, nk5, e'⟩
          rw [upd_ne (Ne.symm nak)]; exact ga4
      · cases e'
    case done =>
      rintro s' ⟨ι', H', M', acc, kv, tx', I', A', R', ga', gk', tk', hl, na', nk', e'⟩
      simp only [Nat.zero_add] at hl e'
      rw [List.drop_of_length_le (by omega)] at e'
      cases e'
      obtain ⟨zk, its, m, rel, lk, hk⟩ := I'.lstM gk'
      have li : its.length = us.length := by rw [← lk, ← tk'.length, hl]
      have tail : ∀ st : SortSt, failedOf st = none → (∃ ys, VRs X.K ι' H' out ys ∧ Vals ys ((arrOf st).map (·.2)).toList) → out.length = ds.length → wpAny (model X.prog X.w) X.A.in1.in1 (PyProof.Rows.ksk_tail a false e1 (.ref kS) st) P E s' := by
        intro st hf ⟨ys, ty, ry⟩ lo
        have zl : ys.length ≤ sizeLine := by rw [← ty.length, lo]; exact lim_line few
        have I6 : Inv X pins σ (upd H' kS (.lst [])) { s' with heap := s'.heap.update kS (Obj.mapSeq fun _ => (#[] : Array Value)), toks := s'.toks } := I'.lset (its' := []) (f := fun _ => #[]) gk' hk rfl .nil (Nat.zero_le _)
        have O6 := R'.off (u' := .lst []) nk' gk' (fun z => z.2.1 _ rfl) fun xs => ⟨(fun z => by cases z), (fun _ z => by cases z)⟩
        have g6 : upd H' kS (.lst []) a = some (.ext fun h => h.get? a = some (seqObj "list" #[] e1)) := by rw [upd_ne (Ne.symm nak)]; exact ga'
        have ga6 : (s'.heap.update kS (Obj.mapSeq fun _ => (#[] : Array Value))).get? a = some (seqObj "list" #[] e1) := (I6.hok a _ g6).1
        have O7 := O6.1.offT (u' := .lst ys) na' g6 (fun xs => ⟨(fun z => by cases z), (fun _ z => by cases z)⟩) (tabs_updE I6 g6 ga6 O6.1.tb) (xi _ _ (Aft.off (Aft.off A' h0k) h0))
        have I7 : Inv X pins σ (upd (upd H' kS (.lst [])) a (.lst ys)) { s' with heap := (s'.heap.update kS (Obj.mapSeq fun _ => (#[] : Array Value))).update a (Obj.mapSeq fun _ => (arrOf st).map (·.2)), toks := s'.toks } := by
          have hn := PyProof.Rows.get?_update_seq ga6 fun _ => (arrOf st).map (·.2)
          exact I6.write (x := a) (e := a) (t' := s'.toks) (by rw [g6]; trivial) (.inl rfl) (fun b u hb hu => (Heap.get?_update_other _ _ (Ne.symm hb)).trans hu) ⟨_, hn⟩ ⟨zl, ((arrOf st).map (·.2)).toList, _, ry, by rw [Array.toArray_toList]; exact hn⟩
        have e3 : ((arrOf st).map (·.2)).size = ys.length := by rw [ry.length, Array.length_toList]
        unfold PyProof.Rows.ksk_tail
        try dsimp only
        refine wpAny_bind (listUpdate_at hk rfl ?_ (by rw [List.size_toArray, ← lk]; exact zk) (Nat.zero_le _))
        refine wpAny_bind (wpAny_letGo ?_)
        refine wpAny_bind (seqEpoch_at ga6 rfl ?_)
        refine wpAny_bind (listUpdate_at ga6 rfl ?_ (Nat.zero_le _) (Nat.le_succ_of_le (Nat.le_trans (Nat.le_of_eq e3) zl)))
        rw [hf]
        simp only [bne_self_eq_false, Bool.false_eq_true, if_false]
        exact wpAny_pure (done ι' _ ys _ I7 (Aft.off (Aft.off A' h0k) h0) O7.1 na' upd_same ((ty.go (fun _ _ z => z) O6.2).go (fun _ _ z => z) O7.2))
      refine wpAny_bind (listItems_at hk rfl ?_)
      have zip_ : (its.toArray.zip us.toArray).toList = its.zip us := by rw [PyProof.Rows.ksk_zip, List.toList_toArray]
      unfold PyProof.Rows.ksk_end
      try dsimp only
      simp only [Bool.false_eq_true, if_false]
      by_cases h2 : us.toArray.size < 2
      · rw [if_pos h2, if_pos h2]
        refine wpAny_bind (wpAny_pure ?_)
        rw [StateT.run_pure]
        refine wpAny_bind (wpAny_pure ?_)
        try dsimp only
        rw [List.size_toArray] at h2
        unfold sortKD at es
        rw [if_pos (by omega)] at es
        cases es
        refine tail (SortSt.mk' general' (its.toArray.zip us.toArray) #[] 7 none) rfl ⟨xs, tx', ?_⟩ rfl
        have : ((arrOf (SortSt.mk' general' (its.toArray.zip us.toArray) #[] 7 none)).map (·.2)).toList = us := by
          show ((its.toArray.zip us.toArray).map (·.2)).toList = us
          rw [Array.toList_map, zip_]
          exact List.map_snd_zip (by omega)
        rw [this]; exact hv
      · rw [if_neg h2, if_neg h2]
        rw [List.size_toArray] at h2
        unfold sortKD at es
        rw [if_neg (by omega)] at es
        split at es
        · rename_i hs
          cases es
          have al := strs_all hs
          obtain ⟨ss, hss⟩ := vals_strs tk' rel al
          have kk : keyKind' its.toArray = pure oneType' := by
            match its, hss, li with
            | v1 :: v2 :: rest, hss, _ => exact keyKind_strs hss
            | [], _, li => exact absurd li (by simp; omega)
            | [_], _, li => exact absurd li (by simp; omega)
          rw [kk]
          refine wpAny_bind (wpAny_pure ?_)
          have hT : SrtO.Cmp X.prog X.w X.A.in1.in1 s' oneType' (fun p => p.1 ∈ its) (SrtO.lt2 strLt) := by
            intro p q hp hq
            obtain ⟨z, t1, e1'⟩ := strs_mem hss _ hp
            obtain ⟨y, t2, e2'⟩ := strs_mem hss _ hq
            show wpAny (model X.prog X.w) X.A.in1.in1 (keyLt' oneType' p.1 q.1) (fun r s'' => s'' = s' ∧ r = strLt p.1 q.1) (fun _ _ => False) s'
            rw [e1', e2']
            exact PySem.W.kas_lt_str ⟨rfl, rfl⟩
          refine wpAny_bind (wpAny_mono (SrtO.wpS_sortO (st0 := SortSt.mk' oneType' (its.toArray.zip us.toArray) #[] 7 none)
            (Q := fun _ st' => SrtO.Srtd (SrtO.lt2 strLt) (arrOf st').toList ∧ SrtO.Stb (SrtO.lt2 strLt) (arrOf st').toList (its.toArray.zip us.toArray).toList ∧ failedOf st' = none) (SrtO.swo2 swo_str) hT rfl (fun p hp => by
              have hp : p ∈ (its.toArray.zip us.toArray).toList := hp
              rw [zip_] at hp
              exact (List.of_mem_zip hp).1) rfl rfl fun st' a1 a2 a3 => ⟨a1, a2, a3⟩) ?_ fun _ _ e => e)
          rintro ⟨⟨⟩, st'⟩ s'' ⟨rfl, hp1, hp2, hf⟩
          try dsimp only
          have eo : (arrOf st').toList = isrtK (SrtO.lt2 strLt) (its.zip us) := by rw [zip_] at hp2; exact stb_isrt (SrtO.swo2 swo_str) hp1 hp2
          have pr := isrtK_pair (lt := ltD) (lt' := SrtO.lt2 strLt) (fun x x' y y' r r' => by show decide (kvD x.1 < kvD x'.1) = decide (sv y.1 < sv y'.1); rw [r.1, r'.1]) (sorted_pairs tk' rel tx' hv al)
          obtain ⟨ys, h3, h4⟩ := unzip_out pr
          refine tail st' hf ⟨ys, h3, by rw [Array.toList_map, eo]; exact h4⟩ ?_
          rw [List.length_map, (isrtK_perm _).length_eq, List.length_zip]; omega
        · cases es
  exact hkS _ rfl fk I3
end

end
end Lk
end

section
set_option Elab.async false
set_option linter.all false
set_option maxRecDepth 100000
set_option maxHeartbeats 4000000
namespace Lk
open PySem PySem.Spec PyProof.Rows L2
noncomputable section
variable [Tbl] [Lnk]
/-! ## IV: sorted(xs, key = f), the call -/
section
variable {X : Cx} {W : WX} {pins : List (Addr × Obj)} {σ : L2.St} {H : Hp} {s : Shared} {ι : List Addr} {M M2 : DM} {k : Nat} {g l : Addr} {run : Run} {dvs ds ks out : List DV} {xs : List V} {Q : VK}
/-- the heap with the list that the items are gathered in -/
def tmpH (h : Heap) (us : List Value) : Heap := (h.push (seqObj "list" #[] 0)).update h.objs.size (Obj.mapSeq (· ++ us.toArray))
theorem tmpH_size {h : Heap} {us : List Value} : (tmpH h us).objs.size = h.objs.size + 1 := by simp only [tmpH, Heap.size_update, size_push']
theorem tmpH_keeps {h : Heap} {us : List Value} (b : Addr) (o : Obj) (there : h.get? b = some o) : (tmpH h us).get? b = some o :=
  (Heap.get?_update_ne _ _ _ _ (Nat.ne_of_lt (Heap.lt_size there))).trans (Heap.get?_push_of_some _ there)
theorem sorted_key (hcall : KeyCall X pins σ ι H (.ref g) run dvs) (I : Inv X pins σ H s) (hq : SqL X.K H l xs) (R : Rep X.K ι H M) (t : VRs X.K ι H ds xs) (few : ds.length ≤ LIM) (ek : keysD run dvs ds [] M = some (ks, M2)) (es : sortKD ks ds = some out)
    (done : ∀ ι' v H', Aft ι H ι' H' → Rep X.K ι' H' M2 → RVR X.K ι' H' (.lst out) v → Fresh H (.lst out) v → Q v H') :
    wpAny (model X.prog X.w) X.A (call (.builtin "sorted") [.ref l] [(Str.ofString "key", .ref g)]) (EP X pins σ Q) X.xe s := by
  obtain ⟨us, hv, pl, hz0⟩ := I.list hq
  have hl : s.heap.IsList l us.toArray := pl.isList
  have hz : us.length ≤ sizeLine := by rw [← hv.length, ← t.length]; exact lim_line few
  refine call_function_entry_kw kind_sorted plain_sorted entry_sorted (PyProof.Rows.ksk_s1 _ _) ?_
  unfold Builtin.«sorted»
  refine wpAny_bind (m := checkCount "sorted" 1 1 _) (wpAny_pure (wpAny_bind (collect_list hl (wpAny_bind (wpAny_newList ?_ hz)) hz)))
  have len1 : (tmpH s.heap us).objs.size = s.heap.objs.size + 1 := tmpH_size
  have hoL : ((tmpH s.heap us).push (seqObj "list" us.toArray 0)).get? (s.heap.objs.size + 1) = some (seqObj "list" us.toArray 0) := len1 ▸ Heap.get?_push_size _ rfl
  have I0 : Inv X pins σ H { s with heap := tmpH s.heap us, toks := s.toks } := I.kept (t' := s.toks) tmpH_keeps
  have I1 := I0.lnew (ys := xs) (its := us) (t' := s.toks) hv (hv.length ▸ hz)
  have fa := I0.fresh
  dsimp only at I1 fa
  rw [len1] at I1 fa
  show wpAny _ _ _ _ _ { s with heap := (tmpH s.heap us).push (seqObj "list" us.toArray 0) }
  rw [show ((s.heap.push (seqObj "list" #[] 0)).update s.heap.objs.size (Obj.mapSeq (· ++ us.toArray))).objs.size = s.heap.objs.size + 1 from len1]
  refine wpAny_bind (wpAny_holding (wpAny_call_entry_kw slot_list_sort ⟨_, hoL, rfl⟩ entry_list_sort ?body (PyProof.Rows.ksk_l1 _ _)))
  case body =>
    show wpAny (model X.prog X.w) X.A.in1.in1 (Builtin.«list.sort» ⟨[.ref (s.heap.objs.size + 1)], [(Str.ofString "key", .ref g)]⟩) _ _ _
    rw [PyProof.Rows.ksk_t1]
    have S : Same H (upd H (s.heap.objs.size + 1) (.lst xs)) := Same.new fa
    have na : s.heap.objs.size + 1 ∉ ι := fun m => R.there m fa
    exact key_tree hcall I1 upd_same hoL hv (R.same S) na (Aft.same S) (.inl fa) (VRs.aft R (Aft.same S) t) few ek es (fun _ _ A => R.xaft A) fun ι' H' ys s' J A' R' na' g' ty => ⟨_, rfl, wpAny_pure ⟨_, rfl, V.ref (s.heap.objs.size + 1), H', J, rfl, done ι' _ H' A' R' (.lst na' g' ty) fun b e => by cases e; exact .inl fa⟩⟩
def mSortK (run : Run) (dvs : List DV) (m : DE) : DE := fun δ M => (m δ M).bind fun r M1 => match asL M1 r with
  | some ds => if ds.length ≤ LIM then match keysD run dvs ds [] M1 with
    | some (ks, M2) => match sortKD ks ds with
      | some out => .ok (.lst out) M2
      | none => .bad
    | none => .bad
    else .bad
  | none => .bad
/-- sorted(e, key = f), f an own def -/
theorem iv_sortK {e : Expr} {m : DE} {f : Str} {p p2 pos kpos : Pos} (hc : X.calm = true) (F : FnFact X k g 1 run dvs) (hr : Room (k + 2) X.A) (hG : X.A.guards = some []) (hm : X.mg "sorted" = none) (hf : X.mg f = some (.ref g)) (he : PE X e (tI X.K W m))
    (hg : Gl X "sorted" := by rfl) (hgf : Gl X f := by rfl) (hfd : (f == ("__debug__" : Str)) = false := by decide)
    (h1 : backTo pos (starEach [e] X.env) = (false, eval e X.env) :: backTo pos (starEach [] X.env) := by rfl) (hpl : (backTo pos (starEach [e] X.env)).any (·.1) = false := by rfl)
    (hall : (backToKw pos (keywordEach [⟨some "key", .Name f p2, kpos⟩] X.env)).all (·.1.isSome) = true := by rfl) (hnone : (backToKw pos (keywordEach [⟨some "key", .Name f p2, kpos⟩] X.env)).any (·.1.isNone) = false := by rfl)
    (hks : (backToKw pos (keywordEach [⟨some "key", .Name f p2, kpos⟩] X.env)).filterMap (·.1) = [Str.ofString "key"] := by rfl) (hst : starEach [e] X.env = (false, eval e X.env) :: starEach [] X.env := by rfl) :
    PE X (.Call (.Name "sorted" p) [e] [⟨some "key", .Name f p2, kpos⟩] pos) (tI X.K W (mSortK run dvs m)) := by
  refine ⟨fun pins s σ H Q I ⟨ι, δ, M, hs, R, h⟩ => ?_⟩
  refine wpAny_Call_Name_kw (ld_blt I hg hm (u := .builtin "sorted") (by decide +kernel) ?_ (by decide) (by decide))
  have pa : PA X [e] (tIr X.K W (mConsR m mNilR)) := ir_cons he ir_nil hst
  have pk : PK X [⟨some "key", .Name f p2, kpos⟩] (tCons (tC (.ref g)) tNil) := pk_cons (pe_glob (v := .ref g) hgf hf rfl hfd) pk_nil
  have h' : Post X.K W σ ι H (relR X.K) (mConsR m mNilR δ M) (fun vs H1 => ∃ ι1 M1 r v, vs = [v] ∧ SR X.K ι1 H1 δ σ ∧ Rep X.K ι1 H1 M1 ∧ RVR X.K ι1 H1 r v ∧ Post X.K W σ ι1 H1 (relE X.K) (match asL M1 r with
      | some ds => if ds.length ≤ LIM then match keysD run dvs ds [] M1 with
        | some (ks, M2) => match sortKD ks ds with
          | some out => .ok (.lst out) M2
          | none => .bad
        | none => .bad
        else .bad
      | none => .bad) Q) := by
    unfold mSortK at h
    cases em : m δ M with
    | bad => rw [em] at h; exact h.elim
    | exc x M' =>
      rw [em] at h
      have e2 : mConsR m mNilR δ M = .exc x M' := by unfold mConsR; rw [em]; rfl
      rw [e2]; exact h
    | ok r M' =>
      rw [em] at h
      have e2 : mConsR m mNilR δ M = .ok [r] M' := by unfold mConsR; rw [em]; rfl
      rw [e2]
      intro ι' vs H' A R' hrel
      obtain ⟨v, rfl, hv⟩ := one_ hrel
      exact ⟨ι', M', r, v, rfl, hs.aft R A, R', hv, Post.later early_E A R' h⟩
  refine PyProof.Rows.callWith_kw (thn (pa.run pos pins s σ H _ I ⟨ι, δ, M, hs, R, h'⟩) fun us s1 ⟨vs, H1, I1, r1, ι1, M1, r, v, ev, hs1, R1, hr1, q1⟩ => thn (pk.run pos pins s1 σ H1 (fun zs H2 => zs = [.ref g] ∧ H2 = H1) I1 ?_) fun ws s2 ⟨zs, H2, I2, r2, ez, eH⟩ => ?_) h1 hpl hall hnone
  · exact ⟨rfl, rfl⟩
  · subst ev ez eH
    obtain rfl := Vals.ref1 r2
    obtain ⟨u, rfl, ru⟩ := vals1 r1
    rw [hks]
    split at q1
    · rename_i ds ed
      split at q1
      · rename_i few
        split at q1
        · rename_i ks M2 ek
          split at q1
          · rename_i out es
            obtain ⟨a, xs, rfl, ga, t⟩ := asL_ok R1 hr1 ed
            cases ru
            exact sorted_key (keycall_of F hr hG) I2 (ga) R1 t few ek es fun ι' v H' A' R' rv f => q1 ι' v H' A' R' ⟨rv, f⟩
          · exact q1.elim
        · exact q1.elim
      · exact q1.elim
    · exact q1.elim
end

end
end Lk
end

section
set_option Elab.async false
set_option linter.all false
set_option maxRecDepth 100000
set_option maxHeartbeats 4000000
namespace Lk
open PySem PySem.Spec PyProof.Rows L2
noncomputable section
variable [Tbl] [Lnk]
/-! ## IV: sorted(xs, key = lambda x: ..) -/
theorem cloFrom_none {cells : List (Str × Addr)} : ∀ {names : List (Str × NameKind)} {acc : List (Str × Addr)}, (∀ y ∈ names, y.2 ≠ .free) → cloFrom cells names acc = acc
  | [], _, _ => rfl
  | (n, k) :: r, acc, h => by
    have hk : (k == NameKind.free) = false := by
      have := h (n, k) List.mem_cons_self
      cases k <;> first | rfl | exact absurd rfl this
    unfold cloFrom
    rw [hk]
    exact cloFrom_none fun y hy => h y (List.mem_cons_of_mem _ hy)
/-- a lambda with one name of its own, run -/
def lamRun (n : Nat) (m : DE) : Run := fun ds M => m (startD n ds) M
section
variable {X : Cx} {pins : List (Addr × Obj)} {σ : L2.St} {H H0 : Hp} {s : Shared} {ι ι0 : List Addr} {M : DM} {k : Nat} {f c' : Addr} {q x : Str} {params : Arguments} {body : Expr} {scope : Scope} {pm ctv : Value} {N : List Str} {m : DE}
/-- the lambda's body, read -/
def LamBody (X : Cx) (k : Nat) (N : List Str) (q : Str) (scope : Scope) (body : Expr) (m : DE) : Prop := ∀ (f : Addr) (cd : Value) (A : Around) (outer : List Env) (s : Shared) (H : Hp), Room k (cxOf (L2N.CX X.prog X.w) X.prog X.w X.K X.mg X.base N q scope f cd A outer s H (fun _ _ _ => False)).A →
  (cxOf (L2N.CX X.prog X.w) X.prog X.w X.K X.mg X.base N q scope f cd A outer s H (fun _ _ _ => False)).A.guards = some [] → PE (cxOf (L2N.CX X.prog X.w) X.prog X.w X.K X.mg X.base N q scope f cd A outer s H (fun _ _ _ => False)) body (tI X.K W0 m)
theorem lam_run {A' : Around} {d : DV} {v : V} {u : Value} {Q : VK} (of1 : s.heap.get? f = some (PySem.W.kla_obj "<lambda>" q params body scope [] pm c' ctv)) (hco : H c' = some (LamX.CodeO c' q)) (S : FnScope N [x] scope) (hr : Room (k + 1) A') (hG : A'.guards = some []) (e0 : Env0 X.prog X.w X.K X.mg X.base A' X.stack s H) (I : Inv X pins σ H s)
    (hbind : ∀ (q : Str) (cl : List (Str × Addr)) (pm cv ctv u : Value), bindArgs (PySem.W.kla_fn "<lambda>" q params body scope cl pm cv ctv) ⟨[u], []⟩ = pure [(x, u)]) (hbody : LamBody X k N q scope body m) (r : RelV v u) (R : Rep X.K ι H M) (hv : VR X.K ι H d v) (h : Post X.K W0 σ ι H (relE X.K) (m (startD N.length [d]) M) Q) :
    codeAny (model X.prog X.w) A' (.call (.ref f) ⟨[u], []⟩) (CR (L2N.CX X.prog X.w) X.stack X.prog X.w H s Q (fun _ _ _ => False)) s := by
  obtain ⟨⟨oc, vs, t, hoc, hdc, hvc⟩, _, _⟩ := I.hok c' _ hco
  refine PySem.W.kla_callFunE hr.depth of1 rfl S.co S.gen rfl ⟨c', oc, vs, t, rfl, hoc, hdc, hvc⟩ ?_
  rw [hbind]
  have hkind : ∀ y ∈ [(x, u)], scope.names.lookup y.1 = some .local ∨ (scope.names.lookup y.1 = some .cell ∧ ((cellsFrom (s.heap.objs.size + 1) scope.names []).lookup y.1).isSome = true) := fun y hy => by
    rw [List.mem_singleton.mp hy]
    rcases S.par x List.mem_cons_self with z | z
    · exact .inl z
    · exact .inr ⟨z, PySem.W.cellsFrom_some _ _ _ (.inl z)⟩
  refine wpAny_pure (wpAny_newFunctionEnv_cells S.kind hkind fun env he s1 y => ?_)
  subst he
  refine ⟨I.nolimit.keeps y.toInCall.keep, ?_⟩
  have J : Inv (cxOf (L2N.CX X.prog X.w) X.prog X.w X.K X.mg X.base N q scope f (.ref c') A' X.stack s H (fun _ _ _ => False)) [] (L2.start N [v]) H s1 := inv_start S hr.hd e0 rfl (.cons r .nil) y
  refine PySem.W.kla_codeExpr (wpAny_mono ((hbody f (.ref c') A' X.stack s H (hr.deeper _) (show (A'.deeper _).guards = some [] from hG)).run [] s1 _ H Q J ⟨ι, _, M, SR.start (.cons hv .nil), R, h⟩) (fun v' s' hq => ?_) fun e s' hq => hq)
  obtain ⟨w', H', J', rv, q⟩ := hq
  exact ⟨w', H', J'.os, J'.bare, J'.base, J'.hok, rv, q⟩
theorem keycall_lam (hco : H0 c' = some (LamX.CodeO c' q)) (nc : c' ∉ ι0) (S : FnScope N [x] scope) (hr : Room (k + 3) X.A) (hG : X.A.guards = some []) (hbind : ∀ (q : Str) (cl : List (Str × Addr)) (pm cv ctv u : Value), bindArgs (PySem.W.kla_fn "<lambda>" q params body scope cl pm cv ctv) ⟨[u], []⟩ = pure [(x, u)])
    (hbody : LamBody X k N q scope body m) : KeyCall X ((f, PySem.W.kla_obj "<lambda>" q params body scope [] pm c' ctv) :: pins) σ ι0 H0 (.ref f) (lamRun N.length m) [] := fun ι H M s d v u Q I A R hv rv h => by
  have of1 := (I.pin (f, _) (List.mem_append_right _ List.mem_cons_self)).1
  have hco' := A.fr0 c' nc _ hco LamX.codeO_ne
  refine wpAny_call (codeAny_mono (lam_run (A' := X.A.in1.in1) of1 hco' S hr.in1.in1 hG I.env0.in1.in1 I hbind hbody rv R hv h) fun r s' done => ?_)
  cases r with
  | error e =>
    obtain ⟨_, _, _, _, _, _, _, _, _, _, _, _, z⟩ := done
    exact z.elim
  | ok fl => cases fl with
    | ret u => exact I.after done
    | next => exact False.elim done
    | brk => exact False.elim done
    | cont => exact False.elim done
/-- a lambda is made: what that leaves -/
theorem Aft.lam {ι : List Addr} {H H1 : Hp} (e : LamX.ExtN H H1) : Aft ι H ι H1 := ⟨⟨[], by simp, by simp⟩, fun b _ o h nt => e b o h nt, fun b f => by
  cases q : H b with
  | none => exact .inl q
  | some o =>
    by_cases z : ∃ ps, o = .tbl ps
    · obtain ⟨ps, rfl⟩ := z; exact .inr ⟨ps, q⟩
    · exact (free_no f (e b o q fun ps y => z ⟨ps, y⟩) fun ps y => z ⟨ps, y⟩).elim, fun b o u h => e b _ h fun _ z => by cases z⟩
theorem Rep.lam {K : PySem.W.Frag} {ι : List Addr} {H H1 : Hp} {M : DM} (R : Rep K ι H M) (e : LamX.ExtN H H1) (t : LamX.Tabs (Tbl.t K) H1) : Rep K ι H1 M := ⟨R.len, R.nd, R.fl, fun n a o h1 h2 => by
  obtain ⟨u, g, q⟩ := R.at_ n a o h1 h2
  exact ⟨u, e a u g q.nt, q.aft R (Aft.lam e)⟩, t, R.xaft (Aft.lam e)⟩
end

end
end Lk
end

section
set_option Elab.async false
set_option linter.all false
set_option maxRecDepth 100000
set_option maxHeartbeats 4000000
namespace Lk
open PySem PySem.Spec PyProof.Rows L2
noncomputable section
variable [Tbl] [Lnk]
section
variable {X : Cx} {W : WX} {pins : List (Addr × Obj)} {σ : L2.St} {H : Hp} {s : Shared} {k : Nat} {c P : Addr} {x : Str} {params : Arguments} {body e : Expr} {scope : Scope} {N : List Str} {m ml : DE}
theorem inv_pin {f : Addr} {o : Obj} (I : Inv X pins σ H s) (hst : X.stack = X.env :: X.outer) (hfr : X.env.frame = some X.env.locals) (hf : s.heap.get? f = some o) (hn : H f = none) (nf : f ∉ frs X.stack) (nc : ∀ v, o.data ≠ .cell v) : Inv X ((f, o) :: pins) σ H s := I.pins_of fun p hp => by
  rcases List.mem_cons.mp hp with rfl | hp
  · rw [hst] at nf
    have e : frs (X.env :: X.outer) = X.env.locals :: frs X.outer := by unfold frs; rw [List.filterMap_cons, hfr]
    rw [e] at nf
    exact ⟨hf, hn, fun z => nf (by rw [show f = X.env.locals from z]; exact List.mem_cons_self), fun z => nf (List.mem_cons_of_mem _ z), nc⟩
  · exact I.pin p (List.mem_append_right _ hp)
theorem inv_unpin {p : Addr × Obj} (I : Inv X (p :: pins) σ H s) : Inv X pins σ H s := I.pins_of fun q hq => I.pin q (List.mem_append_right _ (List.mem_cons_of_mem _ hq))
/-- sorted(e, key = lambda x: ..) -/
theorem iv_sortL {p pos kpos lpos : Pos} (TB : LamX.TabB X.base X.mg c P) (hcode : X.env.code = .ref c) (hmT : (P, X.env.qual ++ "<lambda>") ∈ Tbl.t X.K) (huT : ∀ p ∈ Tbl.t X.K, p.1 = P → p.2 = X.env.qual ++ "<lambda>") (hdef : defaultsOf params X.env = ([], [])) (hst : X.stack = X.env :: X.outer) (hfr : X.env.frame = some X.env.locals)
    (S : FnScope N [x] scope) (hr : Room (k + 3) X.A) (hG : X.A.guards = some []) (hbind : ∀ (q : Str) (cl : List (Str × Addr)) (pm cv ctv u : Value), bindArgs (PySem.W.kla_fn "<lambda>" q params body scope cl pm cv ctv) ⟨[u], []⟩ = pure [(x, u)]) (hbody : LamBody X k N (X.env.qual ++ "<lambda>") scope body ml)
    (hm : X.mg "sorted" = none) (he : PE X e (tI X.K W m))
    (hg : Gl X "sorted" := by rfl)
    (h1 : backTo pos (starEach [e] X.env) = (false, eval e X.env) :: backTo pos (starEach [] X.env) := by rfl) (hpl : (backTo pos (starEach [e] X.env)).any (·.1) = false := by rfl)
    (hall : (backToKw pos (keywordEach [⟨some "key", .Lambda params body scope lpos, kpos⟩] X.env)).all (·.1.isSome) = true := by rfl) (hnone : (backToKw pos (keywordEach [⟨some "key", .Lambda params body scope lpos, kpos⟩] X.env)).any (·.1.isNone) = false := by rfl)
    (hks : (backToKw pos (keywordEach [⟨some "key", .Lambda params body scope lpos, kpos⟩] X.env)).filterMap (·.1) = [Str.ofString "key"] := by rfl) (hse : starEach [e] X.env = (false, eval e X.env) :: starEach [] X.env := by rfl) :
    PE X (.Call (.Name "sorted" p) [e] [⟨some "key", .Lambda params body scope lpos, kpos⟩] pos) (tI X.K W (mSortK (lamRun N.length ml) [] m)) := by
  refine ⟨fun pins s σ H Q I ⟨ι, δ, M, hs, R, h⟩ => ?_⟩
  refine wpAny_Call_Name_kw (ld_blt I hg hm (u := .builtin "sorted") (by decide +kernel) ?_ (by decide) (by decide))
  have pa : PA X [e] (tIr X.K W (mConsR m mNilR)) := ir_cons he ir_nil hse
  have h' : Post X.K W σ ι H (relR X.K) (mConsR m mNilR δ M) (fun vs H1 => ∃ ι1 M1 r v, vs = [v] ∧ SR X.K ι1 H1 δ σ ∧ Rep X.K ι1 H1 M1 ∧ RVR X.K ι1 H1 r v ∧ Post X.K W σ ι1 H1 (relE X.K) (match asL M1 r with
      | some ds => if ds.length ≤ LIM then match keysD (lamRun N.length ml) [] ds [] M1 with
        | some (ks, M2) => match sortKD ks ds with
          | some out => .ok (.lst out) M2
          | none => .bad
        | none => .bad
        else .bad
      | none => .bad) Q) := by
    unfold mSortK at h
    cases em : m δ M with
    | bad => rw [em] at h; exact h.elim
    | exc x M' =>
      rw [em] at h
      have e2 : mConsR m mNilR δ M = .exc x M' := by unfold mConsR; rw [em]; rfl
      rw [e2]; exact h
    | ok r M' =>
      rw [em] at h
      have e2 : mConsR m mNilR δ M = .ok [r] M' := by unfold mConsR; rw [em]; rfl
      rw [e2]
      intro ι' vs H' A R' hrel
      obtain ⟨v, rfl, hv⟩ := one_ hrel
      exact ⟨ι', M', r, v, rfl, hs.aft R A, R', hv, Post.later early_E A R' h⟩
  refine PyProof.Rows.callWith_kw (thn (pa.run pos pins s σ H _ I ⟨ι, δ, M, hs, R, h'⟩) fun us s1 ⟨vs, H1, I1, r1, ι1, M1, r, v, ev, hs1, R1, hr1, q1⟩ => ?_) h1 hpl hall hnone
  subst ev
  obtain ⟨u, rfl, ru⟩ := vals1 r1
  rw [hks]
  show wpAny _ _ (evalAll ((do let v ← eval (.Lambda params body scope lpos) X.env; standAt pos; pure v) :: (backToKw pos (keywordEach [] X.env)).map (·.2))) _ _ s1
  have nofr : ∀ y ∈ scope.names, y.2 ≠ .free := S.nofree
  refine wpAny_evalAll_cons (wpAny_bind (LamX.lam_make2 I1 TB hcode hmT huT R1.tb hdef (fun y hy z => absurd z (nofr y hy)) fun f c' pm ctv H2 s2 I2 eN T2 hf hfn hnf hco => wpAny_bind (wpAny_standAt (wpAny_pure (wpAny_evalAll_nil ?_)))))
  rw [cloFrom_none nofr] at hf
  have A2 : Aft ι1 H1 ι1 H2 := Aft.lam eN
  have R2 := R1.lam eN T2
  have q2 := Post.later early_E A2 R2 q1
  have hr2 := hr1.aft R1 A2
  have nc : c' ∉ ι1 := fun z => by
    obtain ⟨_, oo, u0, _, _, g0, q0⟩ := R2.of_mem z
    rw [hco] at g0
    cases g0
    cases oo with
    | lst ds => obtain ⟨_, z, _⟩ := q0; cases z
    | dic lk kvs => cases lk with
      | false => obtain ⟨_, z, _⟩ := q0; cases z
      | true => obtain ⟨_, _, z, _⟩ := q0; cases z
    | ins c fs => obtain ⟨_, _, z, _⟩ := q0; cases z
  split at q2
  · rename_i ds ed
    split at q2
    · rename_i few
      split at q2
      · rename_i ks M2 ek
        split at q2
        · rename_i out es
          obtain ⟨a, xs, rfl, ga, t⟩ := asL_ok R2 hr2 ed
          cases ru
          have I3 : Inv X ((f, PySem.W.kla_obj "<lambda>" (X.env.qual ++ "<lambda>") params body scope [] pm c' ctv) :: pins) σ H2 { s2 with toks := s2.toks } := inv_pin I2 hst hfr hf hfn hnf (fun v z => by cases z)
          refine thn (sorted_key (keycall_lam hco nc S hr hG hbind hbody) I3 (ga) R2 t few ek es fun ι' v H' A' R' rv fr => q2 ι' v H' A' R' ⟨rv, fr⟩) fun u' s' ⟨v, H', J, rv, q⟩ => ⟨v, H', inv_unpin J, rv, q⟩
        · exact q2.elim
      · exact q2.elim
    · exact q2.elim
  · exact q2.elim
end
/-- okI for a def that makes lambdas -/
theorem okIL {P : Program} {w : World} {K : PySem.W.Frag} {mg : Str → Option Value} {base : Heap} {fd : FuncData} {k : Nat} {p : Str × Option Str} {x qual : Str} {params : Arguments} {body : List Stmt} {scope : Scope} {dvs : List V} {kws : List (Str × V)} {N ps : List Str} {m : DSt} (F : FunD K x qual params body scope dvs kws (He.fAd K p) fd) (S : FnScope N ps scope)
    (walk : ∀ (A : Around) (outer : List Env) (s : Shared) (H : Hp) (E : XK), Room k (cxOf (L2N.CX P w) P w K mg base N qual scope (He.fAd K p) (.ref (He.codeOf K p)) A outer s H E).A → (cxOf (L2N.CX P w) P w K mg base N qual scope (He.fAd K p) (.ref (He.codeOf K p)) A outer s H E).A.guards = some [] →
      L2N.Takes (cxOf (L2N.CX P w) P w K mg base N qual scope (He.fAd K p) (.ref (He.codeOf K p)) A outer s H E) (fun c d _ H => E c d H) →
      PassesOwn (model P w) (cxOf (L2N.CX P w) P w K mg base N qual scope (He.fAd K p) (.ref (He.codeOf K p)) A outer s H E).A (cxOf (L2N.CX P w) P w K mg base N qual scope (He.fAd K p) (.ref (He.codeOf K p)) A outer s H E).env (cxOf (L2N.CX P w) P w K mg base N qual scope (He.fAd K p) (.ref (He.codeOf K p)) A outer s H E).xe →
      PSs (cxOf (L2N.CX P w) P w K mg base N qual scope (He.fAd K p) (.ref (He.codeOf K p)) A outer s H E) body (tIs K (fun c d _ H => E c d H) m)) : FnG P w K mg base (L2N.CX P w) (k + 1) (He.fAd K p) fd ps (spI K ps.length (fnRun N.length m)) :=
  okAt (Z := fun cdv => cdv = .ref (He.codeOf K p)) F S (fun there code => by obtain ⟨c, rfl⟩ := He.codeIn_ref code; exact congrArg Value.ref (He.codeOf_eq there rfl).symm) (fun vs H Q E h => h.1) fun cdv e A outer s H vs Q E hr hG ⟨hl, ι, M, ds, R, hd, h⟩ => by
    subst e
    refine ⟨_, walk A outer s H E hr (show (A.deeper _).guards = some [] from hG) (L2N.takes_of rfl rfl rfl rfl) (passes_of rfl), ι, startD N.length ds, M, SR.start hd, R, ?_⟩
    unfold fnRun at h
    cases e : m (startD N.length ds) M with
    | nx δ M1 => rw [e] at h; exact fun ι' σ' H' A' R' s' => h ι' .non H' A' R' ⟨.v .non, trivial⟩
    | ret r M1 => rw [e] at h; exact fun ι' v H' A' R' r' f' => h ι' v H' A' R' ⟨r', f'⟩
    | brk δ M1 => rw [e] at h; exact h.elim
    | ct δ M1 => rw [e] at h; exact h.elim
    | exc x δ M1 => rw [e] at h; exact fun ι' c d σ' H' A' R' s' x' => h ι' c d H' A' R' x'
    | bad => rw [e] at h; exact h.elim

end
end Lk
end

section
set_option Elab.async false
set_option linter.all false
set_option maxRecDepth 100000
set_option maxHeartbeats 4000000
namespace Lk
open PySem PySem.Spec PyProof.Rows L2
noncomputable section
variable [Tbl] [Lnk]
/-! ## IV: a loop whose turns forget what they made -/
def openS (n : Nat) : Option DV → Bool
  | some d => closed n d
  | none => true
def forget (n : Nat) (ss : List Nat) (δ : DS) (M : DM) : Option (DS × DM) :=
  if (wipeD δ ss).all (openS n) = true ∧ (M.take n).all (closedO n) = true then some (wipeD δ ss, M.take n) else none
def loopFG (it : ItV) (t : Tg) (mb : DSt) (n : Nat) (ss : List Nat) : List DV → DS → DM → SOut
  | [], δ, M => if okIt it M = true then .nx δ M else .bad
  | d :: ds, δ, M => if okIt it M = true then match asgT M t d with
    | some ps => match mb (setsD δ ps) M with
      | .nx δ2 M2 => match forget n ss δ2 M2 with
        | some p => loopFG it t mb n ss ds p.1 p.2
        | none => .bad
      | .ct δ2 M2 => match forget n ss δ2 M2 with
        | some p => loopFG it t mb n ss ds p.1 p.2
        | none => .bad
      | .brk δ2 M2 => .nx δ2 M2
      | o => o
    | none => .bad
    else .bad
def mForG (ss : List Nat) (mi : DI) (t : Tg) (mb : DSt) : DSt := fun δ M => thenE δ (mi δ M) fun it M1 => loopFG it t mb M1.length ss it.xs δ M1
section
variable {K : PySem.W.Frag} {ι new : List Addr} {H : Hp} {M : DM}
theorem SR.setNo : ∀ {δ : DS} {σ : L2.St} (i : Nat), SR K ι H δ σ → SR K ι H (δ.set i none) σ
  | [], [], _, .nil => .nil
  | _ :: _, _ :: _, 0, .cons _ t => .cons (fun x e => by cases e) t
  | _ :: _, _ :: _, i + 1, .cons h t => .cons h (SR.setNo i t)
theorem SR.forgets {δ : DS} {σ : L2.St} (h : SR K ι H δ σ) : ∀ ss : List Nat, SR K ι H (wipeD δ ss) σ
  | [] => h
  | i :: ss => SR.setNo i (SR.forgets h ss)
theorem SR.less {n : Nat} (hn : ι.length = n) {δ : DS} {σ : L2.St} (h : SR K (ι ++ new) H δ σ) (c : δ.all (openS n) = true) : SR K ι H δ σ := by
  induction h with
  | nil => exact .nil
  | @cons d v _ _ h _ ih =>
    rw [List.all_cons, Bool.and_eq_true] at c
    refine .cons (fun x e => ?_) (ih c.2)
    subst e
    obtain ⟨y, e1, r⟩ := h x rfl
    exact ⟨y, e1, r.less hn c.1⟩
end
section
variable {X : Cx} {W : WX} {tg iter : Expr} {body : List Stmt} {pos : Pos}
theorem is_forG {mi : DI} {t : Tg} {mb : DSt} {ss : List Nat} (hp : PassesOwn (model X.prog X.w) X.A X.env X.xe) (hc : X.calm = true) (hi : PI X tg iter (tG X.K W (relI X.K) mi)) (hg : PG X tg (tGn X.K t)) (hb : PSs X body (tIs X.K W mb)) (hsf : ∀ x, foldedSetIterable iter X.env x = pure x) :
    PS X (.For tg iter body [] pos) (tIs X.K W (mForG ss mi t mb)) := ps_of (ps_for hp hc hi hg hb hsf) fun D σ H ⟨ι, δ, M, hs, R, h⟩ => by
  refine ⟨ι, δ, M, hs, R, (PostS.bindE hs R h).imp ?_⟩
  rintro J H1 ⟨it, ι1, M1, A1, hs1, R1, hit, h1⟩
  have hit : ItR X.K ι1 H1 it J := hit
  refine ⟨fun i m σ H => m = it.xs.length - i ∧ i ≤ it.xs.length ∧ ∃ δ M, Aft ι1 H1 ι1 H ∧ SR X.K ι1 H δ σ ∧ Rep X.K ι1 H M ∧ PostS X.K W ι1 H (loopFG it t mb M1.length ss (it.xs.drop i) δ M) D, ⟨_, rfl, Nat.zero_le _, δ, M1, Aft.refl _ _, hs1, R1, h1⟩, ?_⟩
  rintro i m σ2 H2 ⟨rfl, le, δ2, M2, A2, hs2, R2, h2⟩
  by_cases hi : i < it.xs.length
  · right
    have e0 : it.xs.drop i = it.xs[i] :: it.xs.drop (i + 1) := List.drop_eq_getElem_cons hi
    rw [e0] at h2
    simp only [loopFG] at h2
    split at h2
    · rename_i hok
      obtain ⟨go, yl⟩ := (hit ι1 H2 M2 A2 R2 hok i).1 it.xs[i] (List.getElem?_eq_getElem hi)
      refine ⟨go, fun σ H => ∃ δ M, Aft ι1 H1 ι1 H ∧ SR X.K ι1 H δ σ ∧ Rep X.K ι1 H M ∧ PostS X.K W ι1 H (loopFG it t mb M1.length ss (it.xs.drop (i + 1)) δ M) D, fun σ' H' q => ⟨_, by omega, rfl, by omega, q⟩, fun x H3 hy => ?_⟩
      obtain ⟨S, rx⟩ := yl x H3 hy
      have A3 : Aft ι1 H2 ι1 H3 := Aft.same S
      have R3 := R2.same S
      have A13 := A2.trans R2 A3
      split at h2
      · rename_i ps ea
        refine ⟨ι1, M2, it.xs[i], ps, R3, rx, ea, fun qs hq => ⟨ι1, setsD δ2 ps, M2, SR.sets hq (hs2.aft R2 A3), R3, ?_⟩⟩
        have next : ∀ {δ4 : DS} {M4 : DM}, PostS X.K W ι1 H2 (match forget M1.length ss δ4 M4 with
            | some p => loopFG it t mb M1.length ss (it.xs.drop (i + 1)) p.1 p.2
            | none => .bad) D → ∀ ι4 σ4 H4, Aft ι1 H3 ι4 H4 → Rep X.K ι4 H4 M4 → SR X.K ι4 H4 δ4 σ4 → ∃ δ M, Aft ι1 H1 ι1 H4 ∧ SR X.K ι1 H4 δ σ4 ∧ Rep X.K ι1 H4 M ∧ PostS X.K W ι1 H4 (loopFG it t mb M1.length ss (it.xs.drop (i + 1)) δ M) D := fun {δ4 M4} h2 ι4 σ4 H4 A4 R4 hs4 => by
          split at h2
          · rename_i p ef
            unfold forget at ef
            split at ef
            · rename_i cl
              cases ef
              obtain ⟨new, rfl, hnew⟩ := id A4.ext
              have a4 : Aft ι1 H3 ι1 H4 := ⟨⟨[], by simp, by simp⟩, A4.fr0, A4.th, A4.fz⟩
              have r4 := Rep.less R1.len R4 (R3.xaft a4) cl.2
              exact ⟨_, _, A13.trans R3 a4, SR.less R1.len (SR.forgets hs4 ss) cl.1, r4, PostS.later (A3.trans R3 a4) r4 h2⟩
            · cases ef
          · exact h2.elim
        cases eb : mb (setsD δ2 ps) M2 with
        | nx δ4 M4 => rw [eb] at h2; exact fun ι4 σ4 H4 A4 R4 hs4 => next h2 ι4 σ4 H4 A4 R4 hs4
        | ct δ4 M4 => rw [eb] at h2; exact fun ι4 σ4 H4 A4 R4 hs4 => next h2 ι4 σ4 H4 A4 R4 hs4
        | brk δ4 M4 => rw [eb] at h2; exact PostS.later A3 R3 h2
        | ret r M4 => rw [eb] at h2; exact PostS.later A3 R3 h2
        | exc e δ4 M4 => rw [eb] at h2; exact PostS.later A3 R3 h2
        | bad => rw [eb] at h2; exact h2.elim
      · exact h2.elim
    · exact h2.elim
  · left
    have e1 : i = it.xs.length := by omega
    subst e1
    rw [List.drop_length] at h2
    simp only [loopFG] at h2
    split at h2
    · rename_i hok
      exact ⟨(hit ι1 H2 M2 A2 R2 hok _).2 (Nat.le_refl _), PostS.nx h2 R2 hs2⟩
    · exact h2.elim
end
/-- a def that lets no error out, for a caller that takes none -/
theorem fn_quiet {P : Program} {w : World} {K : PySem.W.Frag} {mg : Str → Option Value} {base : Heap} {k n : Nat} {f : Addr} {fd : FuncData} {ps : List Str} {sp : Sp} {run : Run} (G : FnG P w K mg base (L2N.CX P w) k f fd ps (spI K n run)) (h : ∀ vs H Q E, sp vs H Q E → spI K n run vs H Q (fun _ _ _ => False)) :
    FnG P w K mg base C8.CX0 k f fd ps sp where
  len := fun vs H Q E s => G.len _ _ _ _ (h _ _ _ _ s)
  run := fun A outer s H args us vs Q E hr hG e b r w => codeAny_mono (G.run A outer s H args us vs Q (fun _ _ _ => False) hr hG e b r (h _ _ _ _ w)) fun r s' done => by
    cases r with
    | error e =>
      obtain ⟨_, _, _, _, _, _, _, _, _, _, _, _, z⟩ := done
      exact z.elim
    | ok fl => cases fl with
      | ret u => exact done
      | next => exact False.elim done
      | brk => exact False.elim done
      | cont => exact False.elim done

end
end Lk
end

section
set_option Elab.async false
set_option linter.all false
set_option maxRecDepth 100000
set_option maxHeartbeats 4000000
namespace Lk
open PySem PySem.Spec PyProof.Rows L2
noncomputable section
variable [Tbl] [Lnk]
/-! ## IV: words, for printed walks -/
section
variable {X : Cx} {W : WX} {x : Str} {p pos apos cpos : Pos} {o e : Expr} {es : List Expr} {ms : DA} {mr : DR} {mo : DS → DM → Res DV} {id T : String} {name : Str} {t : Tg}
theorem wv (i : Nat) {x : Str} (hN : X.N[i]? = some x := by rfl) (hv : Vis X.env.scope x := by first | exact Or.inl rfl | exact Or.inr (Or.inl rfl) | exact Or.inr (Or.inr rfl)) (hd : (x == ("__debug__" : Str)) = false := by decide) (hcd : (x == ("__classdict__" : Str)) = false := by decide) : PE X (.Name x pos) (tI X.K W (mVar i)) := iv_var hN hv hd hcd
theorem wgI {i : Int} {t} (hm : X.mg x = some (.int i t)) (hg : Gl X x := by rfl) (hd : (x == ("__debug__" : Str)) = false := by decide) : PE X (.Name x pos) (tI X.K W (mC (.int i))) := iv_c (pe_glob (v := .int i) hg hm ⟨_, rfl⟩ hd) fun _ _ => .int i
theorem wgS {z : Str} {t} (hm : X.mg x = some (.str z t)) (hg : Gl X x := by rfl) (hd : (x == ("__debug__" : Str)) = false := by decide) : PE X (.Name x pos) (tI X.K W (mC (.str z))) := iv_c (pe_glob (v := .str z) hg hm ⟨_, rfl⟩ hd) fun _ _ => .str z
theorem wgO {c : Str} (hm : X.mg x = some (.ref (He.ga X.K c))) (hg : Gl X x := by rfl) (hd : (x == ("__debug__" : Str)) = false := by decide) : PE X (.Name x pos) (tI X.K W (mC (.glo c))) := iv_c (pe_glob (v := .ref (He.ga X.K c)) hg hm rfl hd) fun _ _ => .glo c
theorem ktup_vals : ∀ (us : List Value) (ds : List DV), us.length = ds.length → ((us.zip ds).all fun p => match p.1, p.2 with
      | .none, .non => true
      | .bool a, .bl b => a == b
      | .int a _, .int b => decide (a = b)
      | .str a _, .str b => decide (a = b)
      | _, _ => false) = true → ∃ vs, Vals vs us ∧ ∀ K ι H, VRs K ι H ds vs
  | [], [], _, _ => ⟨[], .nil, fun _ _ _ => .nil⟩
  | u :: us, d :: ds, hl, h => by
    rw [List.zip_cons_cons, List.all_cons, Bool.and_eq_true] at h
    obtain ⟨vs, h1, h2⟩ := ktup_vals us ds (by simpa using hl) h.2
    have h := h.1
    dsimp only at h
    split at h
    · exact ⟨.non :: vs, .cons rfl h1, fun _ _ _ => .cons .non (h2 _ _ _)⟩
    · cases beq_iff_eq.mp h; exact ⟨.bl _ :: vs, .cons rfl h1, fun _ _ _ => .cons (.bl _) (h2 _ _ _)⟩
    · cases of_decide_eq_true h; exact ⟨.int _ :: vs, .cons ⟨_, rfl⟩ h1, fun _ _ _ => .cons (.int _) (h2 _ _ _)⟩
    · cases of_decide_eq_true h; exact ⟨.str _ :: vs, .cons ⟨_, rfl⟩ h1, fun _ _ _ => .cons (.str _) (h2 _ _ _)⟩
    · cases h
theorem ktup_ok {K : PySem.W.Frag} {a : Addr} {ds : List DV} (h : ktupB K a ds = true) : ∃ vs, (∀ H, SqT K H a vs) ∧ ∀ K ι H, VRs K ι H ds vs := by
  unfold ktupB at h
  cases e : K.lookup a with
  | none => rw [e] at h; cases h
  | some o =>
    rw [e] at h
    simp only [Bool.and_eq_true] at h
    obtain ⟨h1, h2⟩ := h
    cases ed : o.data with
    | seq its n =>
      rw [ed] at h2
      simp only [Bool.and_eq_true] at h2
      obtain ⟨⟨h3, h4⟩, h5⟩ := h2
      obtain ⟨vs, r, q⟩ := ktup_vals its.toList ds (beq_iff_eq.mp h4) h5
      exact ⟨vs, fun H => .inr ⟨o, its, n, e, of_decide_eq_true h1, ed, smallN (of_decide_eq_true h3), r⟩, q⟩
    | _ => rw [ed] at h2; cases h2
theorem wgT {ds : List DV} {c : Str} (h : ktupB X.K (He.ga X.K c) ds = true) (hm : X.mg x = some (.ref (He.ga X.K c))) (hg : Gl X x := by rfl) (hd : (x == ("__debug__" : Str)) = false := by decide) : PE X (.Name x pos) (tI X.K W (mC (.tup ds))) := by
  obtain ⟨vs, h1, h2⟩ := ktup_ok h
  exact pe_of (pe_glob (v := .ref (He.ga X.K c)) hg hm rfl hd) fun σ H Q ⟨ι, δ, M, hs, R, h⟩ => h.ret R ⟨.v (.tup (h1 H) (h2 X.K ι H)), trivial⟩
theorem wty {T : String} (hv : bootBuiltins x = some (.type T)) (hm : X.mg x = none) (hg : Gl X x := by rfl) (hn : x ≠ "__name__" := by decide) (hd : (x == ("__debug__" : Str)) = false := by decide) : PE X (.Name x pos) (tI X.K W (mC (.ty T))) := iv_c (pe_bltn (v := .ty T) hg hm hv rfl hn hd) fun _ _ => .ty T
theorem wb {g : DM → List RV → Option RV} (hc : CallR X (.builtin id) (rIs X.K g)) (hm : X.mg x = none) (hv : bootBuiltins x = some (.builtin id)) (ha : PA X (e :: es) (tIr X.K W mr)) (hg : Gl X x := by rfl) (hn : x ≠ "__name__" := by decide) (hdb : (x == ("__debug__" : Str)) = false := by decide)
    (he : starEach (e :: es) X.env = (false, eval e X.env) :: starEach es X.env := by rfl) (hpl : (backTo pos (starEach es X.env)).any (·.1) = false := by rfl) : PE X (.Call (.Name x p) (e :: es) [] pos) (tI X.K W (mBlt g mr)) := pe_of (pe_callB hc hg hm hv ha hn hdb he hpl) fun _ _ _ => tI_blt
theorem wt {g : DM → List RV → Option RV} (hc : CallR X (.type T) (rIs X.K g)) (hm : X.mg x = none) (hv : bootBuiltins x = some (.type T)) (ha : PA X (e :: es) (tIr X.K W mr)) (hg : Gl X x := by rfl) (hn : x ≠ "__name__" := by decide) (hdb : (x == ("__debug__" : Str)) = false := by decide)
    (he : starEach (e :: es) X.env = (false, eval e X.env) :: starEach es X.env := by rfl) (hpl : (backTo pos (starEach es X.env)).any (·.1) = false := by rfl) : PE X (.Call (.Name x p) (e :: es) [] pos) (tI X.K W (mBlt g mr)) := pe_of (pe_callTy hc hg hm hv ha hn hdb he hpl) fun _ _ _ => tI_blt
theorem wm {g : DM → DV → List DV → Option (RV × DM)} (pa : PlainAttrs T) (slot : Slot T name id) (hty : typeOf (.builtin id) = pure (.type "method_descriptor")) (hm : MtR X id (rMt X.K g)) (ho : PE X o (tIv X.K W mo)) (ha : PA X (e :: es) (tIa X.K W ms))
    (hbase : attributeBase o name X.env (eval o X.env) = eval o X.env := by rfl)
    (hfew : ((backTo cpos (starEach (e :: es) X.env)).all (fun x => !x.1) && (backToKw cpos (keywordEach [] X.env)).all (fun x => x.1.isSome)
      && decide ((e :: es).length + ([] : List Keyword).length + (if ([] : List Keyword).isEmpty then 0 else 1) < 30)) = true := by rfl)
    (hline : (apos.endLine == cpos.line) = true := by rfl) (hs : starEach (e :: es) X.env = (false, eval e X.env) :: starEach es X.env := by rfl) (hplain : (backTo cpos (starEach es X.env)).any (·.1) = false := by rfl) :
    PE X (.Call (.Attribute o name apos) (e :: es) [] cpos) (tI X.K W (mMt T g mo ms)) := pe_of (pe_bm pa slot hty hm ho ha hbase hfew hline hs hplain) fun _ _ _ => tI_mt
theorem wmR {g : DM → DV → List RV → Option RV} (pa : PlainAttrs T) (slot : Slot T name id) (hty : typeOf (.builtin id) = pure (.type "method_descriptor")) (hm : MtR X id (rMtR X.K g)) (ho : PE X o (tIv X.K W mo)) (ha : PA X (e :: es) (tIr X.K W mr))
    (hbase : attributeBase o name X.env (eval o X.env) = eval o X.env := by rfl)
    (hfew : ((backTo cpos (starEach (e :: es) X.env)).all (fun x => !x.1) && (backToKw cpos (keywordEach [] X.env)).all (fun x => x.1.isSome)
      && decide ((e :: es).length + ([] : List Keyword).length + (if ([] : List Keyword).isEmpty then 0 else 1) < 30)) = true := by rfl)
    (hline : (apos.endLine == cpos.line) = true := by rfl) (hs : starEach (e :: es) X.env = (false, eval e X.env) :: starEach es X.env := by rfl) (hplain : (backTo cpos (starEach es X.env)).any (·.1) = false := by rfl) :
    PE X (.Call (.Attribute o name apos) (e :: es) [] cpos) (tI X.K W (mMtR T g mo mr)) := pe_of (pe_bm pa slot hty hm ho ha hbase hfew hline hs hplain) fun _ _ _ => tI_mtR
theorem wm0 {g : DM → DV → List DV → Option (RV × DM)} (pa : PlainAttrs T) (slot : Slot T name id) (hty : typeOf (.builtin id) = pure (.type "method_descriptor")) (hm : MtR X id (rMt X.K g)) (ho : PE X o (tIv X.K W mo))
    (hbase : attributeBase o name X.env (eval o X.env) = eval o X.env := by rfl) (hline : (apos.endLine == cpos.line) = true := by rfl) : PE X (.Call (.Attribute o name apos) [] [] cpos) (tI X.K W (mMt T g mo mNil)) := pe_of (pe_bm0 pa slot hty hm ho hbase hline) fun _ _ _ => tI_mt0
def mClr (mo : DS → DM → Res DV) : DE := fun δ M => match mo δ M with
  | .ok d M1 => if kindD "list" M1 d = true then mMt "list" gClear mo mNil δ M else mMt "dict" gClearD mo mNil δ M
  | .exc e M1 => .exc e M1
  | .bad => .bad
theorem wclr (ho : PE X o (tIv X.K W mo)) (hbase : attributeBase o "clear" X.env (eval o X.env) = eval o X.env := by rfl) (hline : (apos.endLine == cpos.line) = true := by rfl) : PE X (.Call (.Attribute o "clear" apos) [] [] cpos) (tI X.K W (mClr mo)) :=
  pe_of (pe_alt (pe_bm0 PySem.F.plainAttrs_list PySem.F.slot_list_clear PySem.F.type_list_clear mg_clear ho hbase hline) (pe_bm0 PySem.F.plainAttrs_dict PySem.F.slot_dict_clear PySem.F.type_dict_clear mg_clearD ho hbase hline)) fun σ H Q ⟨ι, δ, M, hs, R, h⟩ => by
    unfold mClr at h
    cases e : mo δ M with
    | ok d M1 =>
      simp only [e] at h
      split at h
      · exact .inl (tI_mt0 ⟨ι, δ, M, hs, R, h⟩)
      · exact .inr (tI_mt0 ⟨ι, δ, M, hs, R, h⟩)
    | exc x M1 =>
      simp only [e] at h
      refine .inl (tI_mt0 ⟨ι, δ, M, hs, R, ?_⟩)
      unfold mMt
      rw [e]; exact h
    | bad => simp only [e] at h; exact h.elim
theorem gnm (i : Nat) {x : Str} (hN : X.N.Nodup) (hi : X.N[i]? = some x := by rfl) (hx : Loc X.env.scope x := by first | exact Or.inl rfl | exact Or.inr rfl) (hf : X.fn x = true ∨ X.env.scope.names.lookup x = some .local := by first | exact Or.inl rfl | exact Or.inr rfl) : PG X (.Name x pos) (tGn X.K (.nm i)) := gn_name hN hi hx hf
theorem igm (i : Nat) {x : Str} (hN : X.N.Nodup) (hi : X.N[i]? = some x := by rfl) (hx : Loc X.env.scope x := by first | exact Or.inl rfl | exact Or.inr rfl) (hf : X.fn x = true ∨ X.env.scope.names.lookup x = some .local := by first | exact Or.inl rfl | exact Or.inr rfl) : PG X (.Name x pos) (tIg X.K W (gNameM i)) := ig_name hN hi hx hf
theorem wset (i : Nat) {x : Str} {pos' : Pos} {n : DS → DM → Res DV} (hN : X.N.Nodup) (he : PE X e (tIv X.K W n)) (hi : X.N[i]? = some x := by rfl) (hx : Loc X.env.scope x := by first | exact Or.inl rfl | exact Or.inr rfl) (hs : swapsWith e (some (.Name x pos')) pos.line X.env = pure false := by rfl)
    (hf : X.fn x = true ∨ X.env.scope.names.lookup x = some .local := by first | exact Or.inl rfl | exact Or.inr rfl) : PS X (.Assign [.Name x pos'] e pos) (tIs X.K W (mSet i n)) := is_set hN hi hx he hs hf
theorem hu_of {k : Nat} {A : Around} (hr : Room k A) : A.units + 65 < cLine := by have := hr.un; omega
theorem hu1_of {k : Nat} {A : Around} (hr : Room k A) : A.units + 1 < cLine := by have := hr.un; omega
theorem hu64_of {k : Nat} {A : Around} (hr : Room k A) : A.units + 64 < cLine := by have := hr.un; omega
theorem mo_nil {k n : Nat} {m : Str} : MethOk X k m n (fun _ => none) := fun _ _ _ h => by cases h
theorem mo_cons {k n : Nat} {m c0 : Str} {run : Run} {dvs : List DV} {f : Addr} {meth : Str → Option (Run × List DV)} (cl : L2.Cls X.K (He.ga X.K c0)) (me : L2.Meth X.K (He.ga X.K c0) m f) (F : FnFact X k f (n + 1) run dvs) (r : MethOk X k m n meth) :
    MethOk X k m n (fun c => if c = c0 then some (run, dvs) else meth c) := fun c run' dvs' h => by
  dsimp only at h
  by_cases e : c = c0
  · rw [if_pos e] at h; cases h; subst e; exact ⟨f, cl, me, F⟩
  · rw [if_neg e] at h; exact r c _ _ h
theorem pa_mono {ta : TA} (h : PA X es ta) : PA X es (fun σ H R => ∃ R' : List V → Hp → Prop, ta σ H R' ∧ ∀ vs H1, R' vs H1 → R vs H1) := ⟨fun pos pins s σ H Q I ⟨R', w, k⟩ => thn (h.run pos pins s σ H R' I w) fun us s1 ⟨vs, H1, I1, r, q⟩ => ⟨vs, H1, I1, r, k vs H1 q⟩⟩
theorem tabs_of {T : Tabs} {K : PySem.W.Frag} {w : World} (h : ∀ t ∈ T, ∀ p ∈ t.2, ∃ v, KDct K w (He.ga K t.1) p.1 v ∧ ∀ ι H, VR K ι H p.2 v) : TabsOk T K w := fun g t z d h1 h2 => h (g, t) (PySem.mem_of_lookup h1) (z, d) (PySem.mem_of_lookup h2)
def mEmptyD : DE := fun _ M => .ok (.dic []) M
theorem bad_fn {P : Program} {w : World} {K : PySem.W.Frag} {mg : Str → Option Value} {base : Heap} {CX : CXT} {k : Nat} {f : Addr} {fd : FuncData} {ps : List Str} : FnG P w K mg base CX k f fd ps (spI K ps.length fun _ _ => .bad) :=
  ⟨fun vs H Q E h => h.1, fun A outer s H args us vs Q E hr hG e b r ⟨_, _, _, _, _, _, h⟩ => h.elim⟩
end
/-! an assignment's target does not leave the suite -/
def NxO (o : SOut) : Prop := match o with | .nx _ _ => True | .bad => True | _ => False
theorem nx_name {i : Nat} : ∀ d δ M, NxO (gNameM i d δ M) := fun _ _ _ => trivial
theorem nx_sub {a b : DS → DM → Res DV} : ∀ d δ M, NxO (gSubM a b d δ M) := fun d δ M => by
  unfold gSubM
  split
  · split
    · split <;> trivial
    · trivial
  · trivial
theorem nx_nil : ∀ d δ M, NxO (gNilM d δ M) := fun d δ M => by unfold gNilM; split <;> trivial
theorem nx_cons {g : DG} {gs : DGs} (h : ∀ d δ M, NxO (gs d δ M)) : ∀ d δ M, NxO (gConsM g gs d δ M) := fun d δ M => by
  unfold gConsM
  split
  · split
    · exact h _ _ _
    · trivial
  · trivial
theorem nx_tup {n : Nat} {gs : DGs} (h : ∀ d δ M, NxO (gs d δ M)) : ∀ d δ M, NxO (gTupM n gs d δ M) := fun d δ M => by
  unfold gTupM
  split
  · split
    · exact h _ _ _
    · trivial
  · trivial
theorem wasg {X : Cx} {W : WX} {tg e : Expr} {pos : Pos} {n : DS → DM → Res DV} {g : DG} (he : PE X e (tIv X.K W n)) (hg : PG X tg (tIg X.K W g)) (hn : ∀ d δ M, NxO (g d δ M)) (hs : swapsWithSole [tg] e pos.line X.env = pure false := by rfl) (hw : swappedStores [tg] e X.env = pure none := by rfl) (h1 : (assignEach [tg] X.env).map (·.2) = [assign tg X.env] := by rfl) :
    PS X (.Assign [tg] e pos) (tIs X.K W (mAsg n g)) := is_asg he hg hs hw h1 fun d δ M => by
  have q := hn d δ M
  cases e : g d δ M <;> rw [e] at q <;> first | trivial | exact q

end
end Lk
end

section
set_option Elab.async false
set_option linter.all false
set_option maxRecDepth 100000
set_option maxHeartbeats 4000000
namespace Lk
open PySem PySem.Spec PyProof.Rows L2
noncomputable section
variable [Tbl] [Lnk]
/-! ## while an error is handled: the keys of a dict, drawn and sorted -/
section
open HotX
variable {prog : Program} {w : World} {A : Around} {E : Value → Shared → Prop} {s : Shared} {κ : Type} [DecidableEq κ] {knd : KeyKind prog w κ} {I d x1 : Addr} {kvs : List (κ × Value)} {ep : Nat}
/-- the error that is handled stays as it is -/
theorem hot_go {h h' : Heap} (c : HotAt A x1 h) (k : ∀ o, h.get? x1 = some o → h'.get? x1 = some o) : HotAt A x1 h' :=
  match c with
  | ⟨c0, o, vs, g, r⟩ => ⟨c0, o, vs, k o g, r⟩
theorem keys_over {Q : Option Value → Shared → Prop} (c : HotAt A x1 s.heap) (nx : x1 ≠ I) (g : s.heap.IsKeyIter I d kvs.length kvs.length ep) (gd : s.heap.DictAt knd d kvs ep)
    (k : ∀ h', (∀ b o, b ≠ I → s.heap.get? b = some o → h'.get? b = some o) → Q none { s with heap := h' }) : wpAny (model prog w) A (pyNext (.ref I)) Q E s := by
  obtain ⟨od, es, god, _, hdd, rel⟩ := gd
  have len : es.size = kvs.length := by have z := rel.2.1.length; simpa using z
  obtain ⟨o, go, gc, gf⟩ := id g
  have T := g.typeIs
  unfold pyNext
  refine wpAny_bind (wpAny_attempt (wpAny_callSpecial?_slot (name := Str.ofString "__next__") T F.slot_dict_keyiterator_next (wpAny_call_entry F.slot_dict_keyiterator_next T F.entry_dict_keyiterator_next ?_ (F.args_dict_keyiterator_next_1 _))))
  refine wpAny_bind (wpAny_pure (wpAny_bind (wpAny_bind ?_)))
  first | refine wpAny_bind (wpAny_typeNameOfWhole_keyiter T (wpAny_pure ?_)) | refine wpAny_bind (wpAny_typeNameOf_keyiter T (wpAny_pure ?_))
  refine wpAny_bind (wpAny_fieldsOf go gf ?_)
  simp only [show Builtin.Dict_items.ownsTuple "dict_keyiterator" = false from by decide, Bool.false_eq_true, if_false]
  refine wpAny_ite_split (fun z => absurd z Bool.false_ne_true) fun _ => ?_
  refine wpAny_bind (wpAny_pure (wpAny_bind (wpAny_dictEntries god hdd ?_)))
  rw [if_neg (by rw [len]; simp)]
  refine wpAny_bind (wpAny_pure (wpAny_bind (wpAny_dictEpoch god hdd ?_)))
  rw [if_neg (by simp)]
  refine wpAny_pure ?_
  simp only [show ¬ ((kvs.length : Int) < 0) from by omega, if_false, Int.toNat_natCast, Array.getElem?_eq_none (Nat.le_of_eq len)]
  refine wpAny_bind ?_
  first | refine wpAny_bind (wpAny_typeNameOfWhole_keyiter T (wpAny_pure ?_)) | refine wpAny_bind (wpAny_typeNameOf_keyiter T (wpAny_pure ?_))
  show wpAny _ _ (setField (.ref I) 0 .none >>= _) _ _ s
  refine wpAny_bind (wpAny_setField go gf (by simp) ?_)
  have c1 : HotAt A x1 (s.heap.update I (Obj.mapFields (·.setIfInBounds 0 .none))) := hot_go c fun o e => (Heap.get?_update_other _ _ (Ne.symm nx)).trans e
  have up : ∀ b o, b ≠ I → s.heap.get? b = some o → (s.heap.update I (Obj.mapFields (·.setIfInBounds 0 .none))).get? b = some o := fun b o n e => (Heap.get?_update_other _ _ (Ne.symm n)).trans e
  generalize s.heap.update I (Obj.mapFields (·.setIfInBounds 0 .none)) = h1 at c1 up ⊢
  show wpAny _ _ (newExc (.type "StopIteration") [] >>= _) _ _ _
  refine wpAny_bind ?_
  simp only [newExc, newTuple]
  refine wpAny_bind (wpAny_newObj_type ?_ (by size_fits))
  refine wpAny_bind (m := firstArgMember _ _) (wpAny_of_eq (a := Value.none) (by first | rfl | (simp only [firstArgMember]; rfl)) ?_)
  refine wpAny_newObj_type ?_ (by size_fits)
  have lt : ∀ {b o}, h1.get? b = some o → ∀ {p q : Obj}, ((h1.push p).push q).get? b = some o := fun e => Heap.get?_push_of_some _ (Heap.get?_push_of_some _ e)
  obtain ⟨c0, o1, vs1, g1, r1⟩ := c1
  refine raiseNew_hot (x1 := x1) ⟨c0, o1, vs1, lt g1, r1⟩ (Nat.ne_of_lt (Heap.lt_size (Heap.get?_push_of_some _ g1))) (Heap.get?_push_size _ rfl) rfl (by first | (simp; done) | (simp; omega) | (simp only [Array.size_append]; simp; omega)) ?_
  refine wpAny_bind (wpAny_isInstance (T := "StopIteration") (b := true) ⟨_, Heap.get?_update_self _ (Heap.get?_push_size _ rfl) rfl, rfl⟩ isSubtype_stop (wpAny_pure (k _ fun b o n e => ?_)))
  have e1 := up b o n e
  exact (Heap.get?_update_other _ _ (Nat.ne_of_gt (Heap.lt_size (Heap.get?_push_of_some _ e1)))).trans (lt e1)
/-- the iterator over a dict's keys, told with the error that is handled -/
theorem walk_hot (ni : d ≠ I) (nx : x1 ≠ I) : Walks prog w A I [I, d, x1] [I] kvs.length (fun i v => ∃ p, kvs[i]? = some p ∧ knd.is p.1 v = true) (fun i h => (h.IsKeyIter I d i kvs.length ep ∧ h.DictAt knd d kvs ep) ∧ HotAt A x1 h) := by
  refine ⟨fun b hb => by rw [List.mem_singleton.mp hb]; exact List.mem_cons_self, fun i h h' st hk => ?_, fun i s Q E hi st hQ => ?_, fun s Q E st hQ => ?_, fun i s Q E st hQ => wpAny_pyIter_keyiter st.1.1 hQ⟩
  · exact ⟨⟨st.1.1.at fun o => hk I (by simp) o, st.1.2.at' fun o => hk d (by simp) o⟩, hot_go st.2 fun o => hk x1 (by simp) o⟩
  · refine wpAny_pyNext_dict_item st.1.1 st.1.2 (List.getElem?_eq_getElem hi) fun key h' hkey g' hs' => ?_
    have up : ∀ b o, b ≠ I → s.heap.get? b = some o → h'.get? b = some o := hs'.extBut
    exact hQ key h' s.toks ⟨_, List.getElem?_eq_getElem hi, hkey⟩ ⟨⟨g', st.1.2.at' fun o => up d o ni⟩, hot_go st.2 fun o => up x1 o nx⟩ fun b o hb => up b o fun z => hb (List.mem_singleton.mpr z)
  · exact keys_over st.2 nx st.1.1 st.1.2 fun h' up => hQ h' s.toks fun b o hb => up b o fun z => hb (List.mem_singleton.mpr z)
theorem collect_hot {R : List Value → Shared → Prop} (lo : (d == sysModules) = false) (c : HotAt A x1 s.heap) (gd : s.heap.DictAt knd d kvs ep) (hn : kvs.length ≤ sizeLine)
    (k : ∀ (h' : Heap) (tk : Nat) (acc : Array Value), (∀ b o, s.heap.get? b = some o → h'.get? b = some o) → ItemsOf (fun i v => ∃ p, kvs[i]? = some p ∧ knd.is p.1 v = true) acc kvs.length → R acc.toList { s with heap := h', toks := tk }) : wpAny (model prog w) A (collect (.ref d)) R E s := by
  have x1lt : x1 < s.heap.objs.size := let ⟨_, _, _, g, _⟩ := c; Heap.lt_size g
  unfold collect
  refine wpAny_bind (wpAny_runValue (codeAny_builtin PyProof.Rows.entry_proto_collect' ?_))
  rw [Around.under_plainId PySem.F.plain_proto_collect _]
  show wpAny _ A.in1 (newList [] >>= fun l => again (.builtin "list.__iadd__" ⟨[l, .ref d], []⟩)) _ _ s
  refine wpAny_bind (wpAny_newObj_type (wpAny_pure ⟨plainId_quiet PySem.F.plain_list_iadd _, codeAny_builtin PyProof.Rows.entry_list_iadd' ?_⟩))
  rw [Around.under_plainId PySem.F.plain_list_iadd _]
  generalize hS : s.heap.objs.size = S
  generalize hh1 : s.heap.push { cls := .type "list", dict := none, data := .seq ([] : List Value).toArray } = h1
  have old : ∀ b o, s.heap.get? b = some o → h1.get? b = some o := fun b o e => by rw [← hh1]; exact Heap.get?_push_of_some _ e
  have gS : h1.get? S = some { cls := .type "list", dict := none, data := .seq #[], slots := #[] } := by rw [← hh1, ← hS]; exact Heap.get?_push_size _ rfl
  have dS : d ≠ S := by rw [← hS]; exact Nat.ne_of_lt gd.lt_size
  have xS : x1 ≠ S := by rw [← hS]; exact Nat.ne_of_lt x1lt
  have gd1 : h1.DictAt knd d kvs ep := gd.at' fun o => old d o
  have c1 : HotAt A x1 h1 := hot_go c fun o => old x1 o
  show wpAny _ A.in1 (Builtin.List.listExtendWith (.ref S) (.ref d) (.ref S)) _ _ { s with heap := h1 }
  have T1 : Shared.TypeIs { s with heap := h1 } (.ref d) "dict" := gd1.dictOf.typeIs
  unfold Builtin.List.listExtendWith
  refine wpAny_bind (wpAny_typeOf T1 ?_)
  simp only [show Builtin.List.listSameRef (.ref S) (.ref d) = false from by simp [Builtin.List.listSameRef, Ne.symm dS], show (Value.type "dict" == Value.type "list") = false from by decide, show (Value.type "dict" == Value.type "tuple") = false from by decide, Bool.or_false, Bool.false_eq_true, if_false]
  refine wpAny_bind (wpAny_pyIter_dict lo gd1 ?_)
  generalize hoi : ({ cls := .type "dict_keyiterator", data := .fields #[.ref d, .int 0 0, .int kvs.length 0, .int ep 0] } : Obj) = oi
  generalize hI : h1.objs.size = I
  have Sl : S < I := by rw [← hI]; exact Heap.lt_size gS
  have dl : d < I := by rw [← hI]; exact gd1.lt_size
  have xl : x1 < I := by rw [← hI]; obtain ⟨_, _, _, g, _⟩ := c; exact Heap.lt_size (old x1 _ g)
  generalize hh2 : h1.push oi = h2
  have old2 : ∀ b o, h1.get? b = some o → h2.get? b = some o := fun b o e => by rw [← hh2]; exact Heap.get?_push_of_some _ e
  have gI : h2.IsKeyIter I d 0 kvs.length ep := ⟨oi, by rw [← hh2, ← hI]; exact Heap.get?_push_size _ (by rw [← hoi]; rfl), by rw [← hoi], by rw [← hoi]; rfl⟩
  have st0 : (h2.IsKeyIter I d 0 kvs.length ep ∧ h2.DictAt knd d kvs ep) ∧ HotAt A.in1 x1 h2 := ⟨⟨gI, gd1.at' fun o => old2 d o⟩, hot_go (A := A.in1) c fun o e => old2 x1 o (old x1 o e)⟩
  have nI : ∀ {b o}, s.heap.get? b = some o → b ≠ I := fun e z => by
    rw [z, ← hI] at e
    exact Nat.lt_irrefl _ (Heap.lt_size (old _ _ e))
  have nS : ∀ {b o}, s.heap.get? b = some o → b ≠ S := fun e z => by
    rw [z, ← hS] at e
    exact Nat.lt_irrefl _ (Heap.lt_size e)
  have W := (walk_hot (prog := prog) (w := w) (A := A.in1) (knd := knd) (I := I) (d := d) (x1 := x1) (kvs := kvs) (ep := ep) (Nat.ne_of_lt dl) (Nat.ne_of_lt xl)).toS
  have Sf : S ∉ [I, d, x1] := by simp only [List.mem_cons, List.not_mem_nil, or_false, not_or]; exact ⟨Nat.ne_of_lt Sl, Ne.symm dS, Ne.symm xS⟩
  have run : ∀ (h3 : Heap) (c3 : Nat), ((h3.IsKeyIter I d 0 kvs.length ep ∧ h3.DictAt knd d kvs ep) ∧ HotAt A.in1 x1 h3) → (∀ b o, s.heap.get? b = some o → h3.get? b = some o) → h3.get? S = some { cls := .type "list", dict := none, data := .seq #[] c3, slots := #[] } →
      codeAny (model prog w) A (.builtin "list.extend.loop" ⟨[.ref S, .ref I, .ref S], []⟩) (fun r s' => ∃ (h' : Heap) (tk : Nat) (acc : Array Value) (c' : Nat), r = .ok (.ret (.ref S)) ∧ s' = { s with heap := h', toks := tk } ∧ (∀ b o, s.heap.get? b = some o → h'.get? b = some o) ∧
        h'.get? S = some { cls := .type "list", dict := none, data := .seq acc c', slots := #[] } ∧ ItemsOf (fun i v => ∃ p, kvs[i]? = some p ∧ knd.is p.1 v = true) acc kvs.length) { s with heap := h3 } := fun h3 c3 st3 keep3 g3 =>
    codeAny_extend_loopS W hn S Sf (.ref S) kvs.length 0 { s with heap := h3 } #[] c3 (Nat.sub_zero _) (Nat.zero_le _) st3 g3 (ItemsOf.nil _) fun s' acc c' mv g' hacc =>
      ⟨s'.heap, s'.toks, acc, c', rfl, (by have z := Moved.eq_with mv; exact z), fun b o e => mv.heap b o (fun z => (List.mem_cons.mp z).elim (nS e) fun z => nI e (List.mem_singleton.mp z)) (keep3 b o e), g', hacc⟩
  have gS2 := old2 S _ gS
  refine wpAny_bind (wpAny_holding (PySem.W.kdl_hint_dict (s := { s with heap := h2 }) st0.1.2.dictOf.typeIs ?_))
  have tail : ∀ (h3 : Heap) (c3 : Nat), ((h3.IsKeyIter I d 0 kvs.length ep ∧ h3.DictAt knd d kvs ep) ∧ HotAt A.in1 x1 h3) → (∀ b o, s.heap.get? b = some o → h3.get? b = some o) → h3.get? S = some { cls := .type "list", dict := none, data := .seq #[] c3, slots := #[] } →
      codeAny (model prog w) A (.builtin "list.extend.loop" ⟨[.ref S, .ref I, .ref S], []⟩) (fun r s' => match r with
        | .ok (.ret v) => wpAny (model prog w) A (match v with
          | .ref a => do
            let o ← load a
            match o.data with
              | .seq xs _ => pure xs.toList
              | _ => unsupported "internal:collect"
          | _ => unsupported "internal:collect") R E s'
        | .ok _ => False
        | .error e => E e s') { s with heap := h3 } := fun h3 c3 st3 keep3 g3 => codeAny_mono (run h3 c3 st3 keep3 g3) fun r s' ⟨h', tk, acc, c', e1, e2, keep, g', hacc⟩ => by
    subst e1 e2
    exact wpAny_bind (wpAny_load g' (wpAny_pure (k h' tk acc keep hacc)))
  refine wpAny_ite_split (fun _ => wpAny_bind (wpAny_rule (wpAny_bind ?_))) (fun _ => wpAny_pure ⟨plainId_quiet PySem.F.plain_extend_loop _, tail h2 _ st0 (fun b o e => old2 b o (old b o e)) gS2⟩)
  show wpAny _ _ (updateSeq S (·.push .none) >>= fun _ => updateSeq S (·.pop)) _ _ _
  refine wpAny_bind (wpAny_updateSeq gS2 rfl ?_)
  have g3 := Heap.get?_update_self (Obj.mapSeq (·.push Value.none)) gS2 rfl
  have o3 : ∀ b o, b ≠ S → h2.get? b = some o → (h2.update S (Obj.mapSeq (·.push Value.none))).get? b = some o := fun b o n e => (Heap.get?_update_other _ _ (Ne.symm n)).trans e
  generalize h2.update S (Obj.mapSeq (·.push Value.none)) = h3 at g3 o3 ⊢
  refine wpAny_updateSeq (hz := by seq_fits) g3 rfl ?_
  have g4 := Heap.get?_update_self (Obj.mapSeq (·.pop)) g3 rfl
  have o4 : ∀ b o, b ≠ S → h2.get? b = some o → (h3.update S (Obj.mapSeq (·.pop))).get? b = some o := fun b o n e => (Heap.get?_update_other _ _ (Ne.symm n)).trans (o3 b o n e)
  exact wpAny_pure ⟨plainId_quiet PySem.F.plain_extend_loop _, tail _ _ ⟨⟨gI.at fun o => o4 I o (Nat.ne_of_gt Sl), st0.1.2.at' fun o => o4 d o dS⟩, hot_go st0.2 fun o => o4 x1 o xS⟩ (fun b o e => o4 b o (nS e) (old2 b o (old b o e))) g4⟩
end
section
open HotX L2H
variable {X : Cx}
/-- what was collected from keys that are texts -/
theorem keys_told {ks : List Str} {vs : List (Key × Value)} {acc : Array Value} (hk : vs.map (·.1) = ks.map Sum.inr) (n : vs.length = ks.length) (items : ItemsOf (fun i v => ∃ p, vs[i]? = some p ∧ (mixKind prog w).is p.1 v = true) acc vs.length) : StrsAre acc.toList ks := by
  refine strs_at (by rw [Array.length_toList, items.1, n]) fun j v e => ?_
  rw [Array.getElem?_toList] at e
  obtain ⟨⟨k, x⟩, e1, e2⟩ := items.2 j v e
  have e3 : (ks[j]?).map (Sum.inr (α := Int)) = some k := by rw [← List.getElem?_map, ← hk, List.getElem?_map, e1, Option.map_some]
  obtain ⟨y, e4, rfl⟩ := Option.map_eq_some_iff.mp e3
  exact (Value.isStrOf_shape (v := v) e2).elim fun t ev => ⟨y, t, e4, ev⟩
/-- sorted(d), while an error is handled -/
theorem call_sortedH (hc : HotC X) : CallR X (.builtin "sorted") (fun xs H Q => ∃ (a : Addr) (kvs : List (Key × V)) (ks : List Str), xs = [.ref a] ∧ Rd H a (.dK kvs) ∧ kvs.map (·.1) = ks.map Sum.inr ∧ ks.length < 64 ∧ ∀ ys p, ys.Perm ks → sortedS ys = true → H p = none →
    Q (.ref p) (upd H p (.lst (ys.map V.str)))) := fun pins s σ H xs us Q I r ⟨a, kvs, ks, ex, hd, hks, h64, q⟩ => by
  subst ex
  obtain ⟨u, eu, rx⟩ := vals1 r
  subst eu
  cases rx
  obtain ⟨_, lo, vs, rel, dd⟩ := dk_rd I.hok hd
  obtain ⟨ep, hat⟩ := dd.dictAt
  obtain ⟨x1, hot⟩ := hc.at I
  have hk := rel.keys.symm.trans hks
  have n : vs.length = ks.length := by have z := congrArg List.length hk; rwa [List.length_map, List.length_map] at z
  have big : ∀ {m : Nat}, m = ks.length → m ≤ sizeLine := fun e => by rw [e, sizeLine_eq]; omega
  refine Calls.call_function_entry (by exact PyProof.Rows.kind_sorted) (by exact PyProof.Rows.plain_sorted) (by exact PyProof.Rows.entry_sorted) (by exact PyProof.Rows.args_sorted1 _) ?_
  unfold Builtin.«sorted»
  refine wpAny_bind (m := checkCount "sorted" 1 1 _) (wpAny_pure (wpAny_bind (collect_hot (A := X.A.in1) (knd := mixKind X.prog X.w) (x1 := x1) lo hot hat (big n) fun h' tk acc keep items => ?_)))
  have told : StrsAre acc.toList ks := keys_told hk n items
  have al : acc.toList.length = ks.length := told.length
  generalize acc.toList = items at told al
  have I1 : Inv X pins σ H { s with heap := h', toks := tk } := I.kept keep
  refine wpAny_bind (wpAny_newList (items := items) ?_ (big al))
  generalize en : (⟨.type "list", none, .seq items.toArray 0, #[]⟩ : Obj) = nl
  have eq : nl = seqObj "list" items.toArray 0 := en.symm
  have gl : (h'.push nl).get? h'.objs.size = some (seqObj "list" items.toArray 0) := by subst eq; exact Heap.get?_push_size _ rfl
  refine wpAny_bind (wpAny_holding (wpAny_call_entry PyProof.Rows.slot_list_sort ⟨_, gl, rfl⟩ PyProof.Rows.entry_list_sort
    (list_sort_treeK strKind_oneLt (s := { s with heap := h'.push nl, toks := tk }) gl told.keysOf (fun v₁ v₂ rest e => keyKind_strs (e ▸ told)) (al ▸ h64) fun st' hp hs => ⟨_, rfl, ?_⟩) (PyProof.Rows.args_list_sort _)))
  obtain ⟨ys, vals, perm, sorted⟩ := sorted_out_str told hp hs
  obtain ⟨_, there⟩ := PyProof.Rows.sortedHeap_at (vs := items) (out := (arrOf st').map (·.2)) gl
  have small : (ys.map V.str).length ≤ sizeLine := big (by rw [List.length_map, perm.length_eq])
  have J := I1.laid (t' := tk) (a := h'.objs.size) (o := .lst (ys.map V.str)) (h' := sortedHeap (h'.push nl) h'.objs.size items ((arrOf st').map (·.2))) (fun b u e => by
    have lt := Heap.lt_size e
    refine (PyProof.Rows.sortedHeap_old (Nat.ne_of_lt lt) ?_).trans (Heap.get?_push_of_some _ e)
    exact (size_push' h' nl).symm ▸ Nat.lt_succ_of_lt lt) (Nat.le_refl _) (show ObjOk X.prog X.w _ _ _ (.lst (ys.map V.str)) from ⟨small, ((arrOf st').map (·.2)).toList, _, vals_of_strs vals, by rw [Array.toArray_toList]; exact there⟩)
  exact wpAny_pure ⟨_, rfl, .ref h'.objs.size, _, J, rfl, q ys _ perm sorted (I1.hok.fresh (Nat.le_refl _))⟩
theorem cb_sortedH (hc : HotC X) : CallR X (.builtin "sorted") (rIs X.K bSorted) := cb_sortedOf (call_sortedH hc)
end

end
end Lk
end

section
set_option Elab.async false
set_option linter.all false
set_option maxRecDepth 100000
set_option maxHeartbeats 4000000
namespace Lk
open PySem PySem.Spec PyProof.Rows L2
noncomputable section
variable [Tbl] [Lnk]
/-! ## IV: try: .. except C as e: .. -/
mutual
def noX : DV → Bool
  | .exn => false
  | .tup ds => noXs ds
  | _ => true
def noXs : List DV → Bool
  | [] => true
  | d :: ds => noX d && noXs ds
end
def noXF {κ : Type} (fs : List (κ × DV)) : Bool := fs.all fun p => noX p.2
def noXO : DObj → Bool
  | .lst ds => noXs ds
  | .dic _ kvs => noXF kvs
  | .ins _ fs => noXF fs
def noXR : RV → Bool
  | .v d => noX d
  | .lst ds => noXs ds
  | .dic kvs => noXF kvs
def noXM (M : DM) : Bool := M.all noXO
def noXS (δ : DS) : Bool := δ.all fun o => match o with
  | some d => noX d
  | none => true
/-- the error at a, its fields in the dict at dd, stands behind all that L tells -/
def lnkX (L : Lnk) (a dd : Addr) (fs : List (Str × DV)) : Lnk where
  ea := a
  sc := L.sc
  scq := fun h e => L.scq h.1 e
  inv := fun K ι H => L.inv K ι H ∧ ∃ es, H dd = some (.xd es) ∧ @FR L K ι H _ fs es
  go := fun {K ι ι' H H'} nt ex f h => by
    obtain ⟨h1, es, g, t⟩ := h
    refine ⟨L.go nt ex f h1, es, f dd (fun m => ?_) _ g ⟨(fun _ z => by cases z), (fun _ z => by cases z), (fun _ z => by cases z)⟩, FR.go (fun n b e => ?_) (fun b xs q => ?_) t⟩
    · obtain ⟨u, q, k⟩ := nt dd m
      rw [g] at q; cases q
      rcases k with ⟨_, z⟩ | ⟨_, z⟩ | ⟨_, _, z⟩ | ⟨_, _, _, z⟩ <;> cases z
    · obtain ⟨new, rfl⟩ := ex
      rw [List.getElem?_append_left (List.getElem?_eq_some_iff.mp e).1]; exact e
    · have no : ∀ {u : HO}, H b = some u → (¬ Num u) → b ∉ ι := fun e k m => by
        obtain ⟨u', q', k'⟩ := nt b m
        rw [e] at q'; cases q'; exact k k'
      rcases q with (q | ⟨o, q⟩) | q
      · exact .inl (.inl (f b (no q (fun z => by rcases z with ⟨_, z⟩ | ⟨_, z⟩ | ⟨_, _, z⟩ | ⟨_, _, _, z⟩ <;> cases z)) _ q ⟨(fun _ z => by cases z), (fun _ z => by cases z), (fun _ z => by cases z)⟩))
      · exact .inl (.inr ⟨o, f b (no q (fun z => by rcases z with ⟨_, z⟩ | ⟨_, z⟩ | ⟨_, _, z⟩ | ⟨_, _, _, z⟩ <;> cases z)) _ q ⟨(fun _ z => by cases z), (fun _ z => by cases z), (fun _ z => by cases z)⟩⟩)
      · exact .inr q
section
theorem VR.lnk {Lb La : Lnk} (hsc : La.sc = Lb.sc) {K : PySem.W.Frag} {ι : List Addr} {H : Hp} {d : DV} {v : V} (h : @VR La K ι H d v) : noX d = true → @VR Lb K ι H d v := by
  induction h using VR.rec (motive_2 := fun ds vs _ => noXs ds = true → @VRs Lb K ι H ds vs) with
  | non => exact fun _ => @VR.non Lb _ _ _
  | bl b => exact fun _ => @VR.bl Lb _ _ _ b
  | int b => exact fun _ => @VR.int Lb _ _ _ b
  | str b => exact fun _ => @VR.str Lb _ _ _ b
  | tup q _ ih => exact fun e => @VR.tup Lb _ _ _ _ _ _ q (ih e)
  | obj q => exact fun _ => @VR.obj Lb _ _ _ _ _ q
  | glo b => exact fun _ => @VR.glo Lb _ _ _ b
  | ty b => exact fun _ => @VR.ty Lb _ _ _ b
  | exn => exact fun e => absurd e Bool.false_ne_true
  | scr q => exact fun _ => @VR.scr Lb _ _ _ _ _ (hsc ▸ q)
  | nil => exact @VRs.nil Lb _ _ _
  | cons _ _ h1 h2 e => exact @VRs.cons Lb _ _ _ _ _ _ _ (h1 (Bool.and_eq_true_iff.mp e).1) (h2 (Bool.and_eq_true_iff.mp e).2)
theorem VRs.lnk {Lb La : Lnk} (hsc : La.sc = Lb.sc) {K : PySem.W.Frag} {ι : List Addr} {H : Hp} {ds : List DV} {vs : List V} (h : @VRs La K ι H ds vs) (e : noXs ds = true) : @VRs Lb K ι H ds vs := by
  have z : @VR Lb K ι H (.tup ds) (.ref 0) ∨ True := .inr trivial
  induction ds generalizing vs with
  | nil => cases h; exact @VRs.nil Lb _ _ _
  | cons d ds ih =>
    cases h with
    | cons h t => exact @VRs.cons Lb _ _ _ _ _ _ _ (VR.lnk hsc h (Bool.and_eq_true_iff.mp e).1) (ih t (Bool.and_eq_true_iff.mp e).2 (.inr trivial))
theorem FR.lnk {Lb La : Lnk} (hsc : La.sc = Lb.sc) {K : PySem.W.Frag} {ι : List Addr} {H : Hp} {κ : Type} {ds : List (κ × DV)} {vs : List (κ × V)} (h : @FR La K ι H κ ds vs) (e : noXF ds = true) : @FR Lb K ι H κ ds vs := by
  induction h with
  | nil => exact .nil
  | cons h _ ih =>
    have e := Bool.and_eq_true_iff.mp (show (_ && _) = true from e)
    exact .cons ⟨h.1, VR.lnk hsc h.2 e.1⟩ (ih e.2)
theorem noXs_int : ∀ is : List Int, noXs (is.map .int) = true
  | [] => rfl
  | _ :: is => by rw [List.map_cons]; exact noXs_int is
theorem OR.lnk {Lb La : Lnk} (hsc : La.sc = Lb.sc) {K : PySem.W.Frag} {ι : List Addr} {H : Hp} {o : DObj} {u : HO} (h : @OR La K ι H o u) (e : noXO o = true) : @OR Lb K ι H o u := by
  cases o with
  | lst ds => obtain ⟨xs, e1, r⟩ := h; exact ⟨xs, e1, VRs.lnk hsc r e⟩
  | dic lk kvs => cases lk with
    | false => obtain ⟨xs, e1, r⟩ := h; exact ⟨xs, e1, FR.lnk hsc r e⟩
    | true => obtain ⟨o, xs, e1, r⟩ := h; exact ⟨o, xs, e1, FR.lnk hsc r e⟩
  | ins c fs => obtain ⟨o, xs, e1, r⟩ := h; exact ⟨o, xs, e1, FR.lnk hsc r e⟩
theorem RVR.lnk {Lb La : Lnk} (hsc : La.sc = Lb.sc) {K : PySem.W.Frag} {ι : List Addr} {H : Hp} {r : RV} {v : V} (h : @RVR La K ι H r v) (e : noXR r = true) : @RVR Lb K ι H r v := by
  cases h with
  | v h => exact @RVR.v Lb _ _ _ _ _ (VR.lnk hsc h e)
  | lst n g t => exact @RVR.lst Lb _ _ _ _ _ _ n g (VRs.lnk hsc t e)
  | dic n g t => exact @RVR.dic Lb _ _ _ _ _ _ n g (FR.lnk hsc t e)
theorem SR.lnk {Lb La : Lnk} (hsc : La.sc = Lb.sc) {K : PySem.W.Frag} {ι : List Addr} {H : Hp} {δ : DS} {σ : L2.St} (h : @SR La K ι H δ σ) (e : noXS δ = true) : @SR Lb K ι H δ σ := by
  induction h with
  | nil => exact .nil
  | @cons d v _ _ h _ ih =>
    have e := Bool.and_eq_true_iff.mp (show (_ && _) = true from e)
    refine .cons (fun x z => ?_) (ih e.2)
    subst z
    obtain ⟨y, e1, r⟩ := h x rfl
    exact ⟨y, e1, VR.lnk hsc r e.1⟩
theorem Rep.lnk {Lb La : Lnk} (hsc : La.sc = Lb.sc) {K : PySem.W.Frag} {ι : List Addr} {H : Hp} {M : DM} (R : @Rep _ La K ι H M) (e : noXM M = true) (x : Lb.inv K ι H) : @Rep _ Lb K ι H M :=
  @Rep.mk _ Lb _ _ _ _ R.len R.nd R.fl (fun n a o h1 h2 => by
    obtain ⟨u, g, q⟩ := R.at_ n a o h1 h2
    exact ⟨u, g, q.lnk hsc (DM.all_at e h2)⟩) R.tb x
end
/-- slot i is emptied on both sides -/
theorem SR.none2 {K : PySem.W.Frag} {ι : List Addr} {H : Hp} : ∀ {δ : DS} {σ : L2.St} (i : Nat), SR K ι H δ σ → SR K ι H (δ.set i none) (σ.set i none)
  | [], [], _, .nil => .nil
  | _ :: _, _ :: _, 0, .cons _ t => .cons (fun x e => by cases e) t
  | _ :: _, _ :: _, i + 1, .cons h t => .cons h (SR.none2 i t)
theorem Rep.out {L La : Lnk} {a dd : Addr} {fs : List (Str × DV)} {K : PySem.W.Frag} {ι : List Addr} {H : Hp} {M : DM} (R : @Rep _ (lnkX L a dd fs) K ι H M) (e : noXM M = true) : @Rep _ L K ι H M := Rep.lnk (by rfl) R e (@Rep.x _ (lnkX L a dd fs) _ _ _ _ R).1
theorem SR.out {L La : Lnk} (hsc : La.sc = L.sc) {K : PySem.W.Frag} {ι : List Addr} {H : Hp} {δ : DS} {σ : L2.St} (i : Nat) (h : @SR La K ι H δ σ) (e : noXS (δ.set i none) = true) : @SR L K ι H (δ.set i none) (σ.set i none) := SR.lnk hsc (SR.none2 i h) e
/-- the error that is handled is at a, its fields at dd are e's -/
def ErrAt (K : PySem.W.Frag) (a dd : Addr) (e : Exc) : Prop := Lnk.ea = a ∧ ∀ ι H, Lnk.inv K ι H → ∃ es, H dd = some (.xd es) ∧ ∀ f d, e.fs.lookup f = some d → noX d = true → ∃ y, es.lookup f = some y ∧ VR K ι H d y
theorem lnkX_err {L : Lnk} {K : PySem.W.Frag} {a dd : Addr} {e : Exc} : @ErrAt (lnkX L a dd e.fs) K a dd e := ⟨rfl, fun ι H ⟨_, es, g, t⟩ => ⟨es, g, fun f d el nx => by
  obtain ⟨y, ey, r⟩ := @valF_ok _ L _ _ _ _ _ t _ _ el
  exact ⟨y, ey, VR.lnk (by rfl) r nx⟩⟩⟩
/-- how a suite's end is seen outside -/
def outX (i : Nat) : SOut → SOut
  | .nx δ M => if noXS (δ.set i none) = true ∧ noXM M = true then .nx (δ.set i none) M else .bad
  | .ret r M => if noXR r = true ∧ noXM M = true then .ret r M else .bad
  | .brk δ M => if noXS (δ.set i none) = true ∧ noXM M = true then .brk (δ.set i none) M else .bad
  | .ct δ M => if noXS (δ.set i none) = true ∧ noXM M = true then .ct (δ.set i none) M else .bad
  | _ => .bad
def mTry (exm : Str → Option Bool) (i : Nat) (mb : DSt) (ms : Exc → DSt) : DSt := fun δ M => match mb δ M with
  | .exc e δ1 M1 => match exm e.cls with
    | some true => if noXS δ1 = true ∧ noXM M1 = true then outX i (ms e (δ1.set i (some .exn)) M1) else .bad
    | some false => .exc e δ1 M1
    | none => .bad
  | o => o
section
variable {X : Cx} {W : WX} {x n : Str} {i : Nat} {body suite : List Stmt} {b₀ : Stmt} {np pos pos' : Pos} {mb : DSt} {ms : Exc → DSt} {exm : Str → Option Bool} {c : Value}
/-- the suite's reading -/
def SuiteOk (X : Cx) (suite : List Stmt) (ms : Exc → DSt) : Prop := ∀ (L : Lnk) (a dd : Addr) (oe : Obj) (e : Exc) (pn : List (Addr × Obj)), @ErrAt L X.K a dd e → L2N.Zn (.ref (He.ga X.K e.cls)) (some dd) oe → (∃ vs, oe.data = .fields vs) → L2H.HotC (X.suite a ((a, oe) :: pn)) → (∀ k, Room k X.A → L2H.RoomH k (X.suite a ((a, oe) :: pn)).A) →
  PSs (X.suite a ((a, oe) :: pn)) suite (@tIs _ L X.K W0 (ms e))
theorem hot_suite {a dd : Addr} {oe : Obj} {e : Exc} {pn : List (Addr × Obj)} (hz : L2N.Zn (.ref (He.ga X.K e.cls)) (some dd) oe) (hf : ∃ vs, oe.data = .fields vs) : L2H.HotC (X.suite a ((a, oe) :: pn)) :=
  let ⟨vs, h⟩ := hf
  ⟨(a, oe), ⟨rfl, vs, h, hz.2.2 vs h⟩, List.mem_cons_self⟩
theorem is_tryAs (hs : X.stack = X.env :: X.outer) (hf : X.env.frame = some X.env.locals) (hN : X.N.Nodup) (hi : X.N[i]? = some n) (hln : X.env.kindOf n = some .local) (hc : Names X x c) (tk : L2N.Takes X W) (hx : ∀ k b, exm k = some b → PySem.W.exmOne X.K (.ref (He.ga X.K k)) c = some b)
    (hb : ∀ (W : WX) (pn : List (Addr × Obj)) (xe : Value → Shared → Prop), L2N.Takes (X.tr pn xe) W → PassesOwn (model X.prog X.w) X.A X.env xe → PSs (X.tr pn xe) body (tIs X.K W mb)) (hsu : SuiteOk X (b₀ :: suite) ms) :
    PS X (.Try body [.ExceptHandler (some (.Name x np)) (some n) (b₀ :: suite) pos'] [] [] pos) (tIs X.K W (mTry exm i mb ms)) := by
  refine ps_of (L2N.ps_try_as (c := c) (i := i) (Wout := W) (tb := fun W => tIs X.K W mb)
    (ts := fun a cls d D σ H => ∃ (e : Exc) (dd : Addr), cls = .ref (He.ga X.K e.cls) ∧ d = some dd ∧ @tIs _ (lnkX inferInstance a dd e.fs) X.K W0 (ms e) D σ H) hs hf hN hi hln hc tk hb fun a oe cls d pn hz hfl => ⟨fun pins s σ H D I ⟨e, dd, ec, ed, h⟩ => ?_⟩) fun D σ H ⟨ι, δ, M, hs, R, h⟩ => ⟨ι, δ, M, hs, R, ?_⟩
  · subst ec ed
    exact (hsu _ a dd oe e pn lnkX_err hz hfl (hot_suite hz hfl) (fun k r => ⟨r.dp, r.un⟩)).run pins s σ H D I h
  unfold mTry at h
  cases em : mb δ M with
  | nx δ1 M1 => rw [em] at h; exact h
  | ret r M1 => rw [em] at h; exact h
  | brk δ1 M1 => rw [em] at h; exact h
  | ct δ1 M1 => rw [em] at h; exact h
  | bad => rw [em] at h; exact h
  | exc e δ1 M1 =>
    simp only [em] at h
    intro ι1 cls d σ1 H1 A1 R1 s1 ⟨ec, dd, es, ed, g, t⟩
    cases eb : exm e.cls with
    | none => rw [eb] at h; exact h.elim
    | some b =>
      refine ⟨b, by rw [ec]; exact hx _ _ eb, fun z a na => ?_, fun z => ?_⟩
      · subst z
        simp only [eb] at h
        split at h
        · rename_i nx
          refine ⟨e, dd, ec, ed, ι1, δ1.set i (some .exn), M1, @SR.set _ (lnkX inferInstance a dd e.fs) _ _ _ _ _ _ _ i (SR.lnk (by rfl) s1 nx.1) (@VR.exn (lnkX inferInstance a dd e.fs) _ _ _), Rep.lnk (by rfl) R1 nx.2 ⟨R1.x, es, g, t⟩, ?_⟩
          have h := PostS.later A1 R1 h
          unfold outX at h
          cases eo : ms e (δ1.set i (some .exn)) M1 with
          | nx δ2 M2 =>
            simp only [eo] at h
            split at h
            · rename_i n2
              exact fun ι2 σ2 H2 A2 R2 s2 => h ι2 _ H2 A2 (Rep.out (La := inferInstance) R2 n2.2) (SR.out (by rfl) i s2 n2.1)
            · exact h.elim
          | ret r M2 =>
            simp only [eo] at h
            split at h
            · rename_i n2
              exact fun ι2 v H2 A2 R2 r2 f2 => h ι2 v H2 A2 (Rep.out (La := inferInstance) R2 n2.2) (RVR.lnk (by rfl) r2 n2.1) f2
            · exact h.elim
          | brk δ2 M2 =>
            simp only [eo] at h
            split at h
            · rename_i n2
              exact fun ι2 σ2 H2 A2 R2 s2 => h ι2 _ H2 A2 (Rep.out (La := inferInstance) R2 n2.2) (SR.out (by rfl) i s2 n2.1)
            · exact h.elim
          | ct δ2 M2 =>
            simp only [eo] at h
            split at h
            · rename_i n2
              exact fun ι2 σ2 H2 A2 R2 s2 => h ι2 _ H2 A2 (Rep.out (La := inferInstance) R2 n2.2) (SR.out (by rfl) i s2 n2.1)
            · exact h.elim
          | exc e2 δ2 M2 => simp only [eo] at h; exact h.elim
          | bad => simp only [eo] at h; exact h.elim
        · exact h.elim
      · subst z
        rw [eb] at h
        exact h ι1 cls d σ1 H1 A1 R1 s1 ⟨ec, dd, es, ed, g, t⟩
end
/-! ### the error's fields -/
def mExf (xf : Str → Str → Bool) (e : Exc) (f : Str) (mo : DS → DM → Res DV) : DE := fun δ M => if xf e.cls f = true then (mo δ M).bind fun d M1 => match d with
    | .exn => match e.fs.lookup f with
      | some d => if noX d = true then .ok (.v d) M1 else .bad
      | none => .bad
    | _ => .bad
  else .bad
section
open HotX L2H
variable {X : Cx} {W : WX} {a dd : Addr} {oe : Obj} {e : Exc} {pn : List (Addr × Obj)} {o : Expr} {f : Str} {pos : Pos} {xf : Str → Str → Bool} {mo : DS → DM → Res DV}
theorem iv_exf (ha : ErrAt X.K a dd e) (hX : ∀ c f, xf c f = true → XfC X.K (He.ga X.K c) ∧ PySem.W.findIn X.K (.ref (He.ga X.K c)) f = some none) (hz : L2N.Zn (.ref (He.ga X.K e.cls)) (some dd) oe) (hf : ∃ vs, oe.data = .fields vs)
    (ho : PE (X.suite a ((a, oe) :: pn)) o (tIv X.K W mo)) (hb : attributeBase o f X.env (eval o X.env) = eval o X.env := by rfl) : PE (X.suite a ((a, oe) :: pn)) (.Attribute o f pos) (tI X.K W (mExf xf e f mo)) := by
  by_cases hx : xf e.cls f = true
  · obtain ⟨h1, h2⟩ := hX _ _ hx
    refine pe_of (pe_xf h1 h2 hz.zc hf ho hb) fun σ H Q ⟨ι, δ, M, hs, R, h⟩ => ?_
    unfold mExf at h
    rw [if_pos hx] at h
    refine ⟨ι, δ, M, hs, R, (Post.bind early_E hs R h).imp ?_⟩
    rintro v H1 ⟨x, ι1, M1, A1, hs1, R1, hv, h1⟩
    try dsimp only at h1
    split at h1
    · split at h1
      · rename_i d el
        split at h1
        · rename_i nx
          cases hv
          obtain ⟨es, g, t⟩ := ha.2 _ _ R1.x
          obtain ⟨y, ey, r⟩ := t _ _ el nx
          exact ⟨by rw [ha.1], rfl, dd, es, y, rfl, g, ey, h1.ret R1 ⟨.v r, trivial⟩⟩
        · exact h1.elim
      · exact h1.elim
    · exact h1.elim
  · refine ⟨fun pins s σ H Q I ⟨ι, δ, M, hs, R, h⟩ => ?_⟩
    unfold mExf at h
    rw [if_neg hx] at h
    exact h.elim
end
/-! ### own functions called while an error is handled -/
section
open HotX L2H
def FnFactH (X : Cx) (k : Nat) (f : Addr) (n : Nat) (run : Run) : Prop := ∃ fd ps, FnH X.prog X.w X.K X.mg X.base (L2N.CX X.prog X.w) k f fd ps (spI X.K ps.length run) ∧ L2.Binds X.K fd ps [] ∧ n = ps.length
variable {X : Cx} {W : WX} {pins : List (Addr × Obj)} {σ : L2.St} {H : Hp} {s : Shared} {Q : VK} {ι : List Addr} {M : DM}
theorem call_runH {k n : Nat} {f : Addr} {run : Run} {xs : List DV} {vs : List V} {us : List Value} (F : FnFactH X k f n run) (hr : RoomH k X.A) (hc : HotC X) (tk : L2N.Takes X W) (I : Inv X pins σ H s) (r : Vals vs us)
    (R : Rep X.K ι H M) (hv : VRs X.K ι H xs vs) (hn : xs.length = n) (h : Post X.K W σ ι H (relE X.K) (run xs M) Q) : wpAny (model X.prog X.w) X.A (call (.ref f) us) (EP X pins σ Q) X.xe s := by
  obtain ⟨fd, ps, F, hb, hl⟩ := F
  exact run_fnH (E := fun σ c d H => W c d σ H) F hr hc hb (L2N.passAt tk σ) I r ⟨by rw [← hv.length, hn, hl], ι, M, xs, R, hv, h⟩
def MethOkH (X : Cx) (k : Nat) (m : Str) (n : Nat) (meth : Str → Option (Run × List DV)) : Prop := ∀ c run dvs, meth c = some (run, dvs) → dvs = [] ∧ ∃ f, L2.Cls X.K (He.ga X.K c) ∧ L2.Meth X.K (He.ga X.K c) m f ∧ FnFactH X k f (n + 1) run
variable {x m : Str} {p pos apos : Pos} {e o : Expr} {es : List Expr} {ms : DA} {mo : DS → DM → Res DV} {k n : Nat} {f C : Addr} {run : Run}
theorem iv_meth0H {pl : Sem Bool} {meth : Str → Option (Run × List DV)} (F : MethOkH X k m 0 meth) (hr : RoomH k X.A) (hc : HotC X) (tk : L2N.Takes X W) (ho : PE X o (tIv X.K W mo))
    (ht : eval (.Call (.Attribute o m apos) [] [] pos) X.env = (do
      let ov ← eval o X.env
      standAt apos.atName
      let (f, first) ← holding [ov] (getMethod ov m pl)
      callWith pos f first (backTo pos (starEach [] X.env)) (backToKw pos (keywordEach [] X.env)))) : PE X (.Call (.Attribute o m apos) [] [] pos) (tI X.K W (mMeth meth m 0 mo mNil)) := by
  refine ⟨fun pins s σ H Q I ⟨ι, δ, M, hs, R, h⟩ => ?_⟩
  refine PySem.W.methodCall_KW (pl := pl) (thn (ho.run pins s σ H _ I ⟨ι, δ, M, hs, R, Post.bind early_E hs R h⟩) fun u s1 ⟨v, H1, I1, rx, d, ι1, M1, A1, hs1, R1, hx, h1⟩ => ?_) ht
  try dsimp only at h1
  split at h1
  · rename_i c fs ei
    split at h1
    · rename_i hl
      split at h1
      · rename_i run dvs em
        obtain ⟨rfl, f, cl, me, F⟩ := F c run dvs em
        obtain ⟨a, dx, es', rfl, g, t⟩ := asI_ok R1 (.v hx) ei
        obtain rfl : u = Value.ref a := rx
        refine getmeth_ok I1 g cl me (lookF_none t hl) ?_
        exact PySem.W.callWith_K0 (first := [.ref a]) I1.kIn me.kp (call_runH (us := [.ref a]) (vs := [.ref a]) (xs := [d]) F hr hc tk I1 (.cons rfl .nil) R1 (.cons hx .nil) rfl h1)
      · exact h1.elim
    · exact h1.elim
  · exact h1.elim
theorem iv_callH (F : FnFactH X k f n run) (hr : RoomH k X.A) (hc : HotC X) (tk : L2N.Takes X W) (hg : Gl X x) (hm : X.mg x = some (.ref f)) (hk : PySem.W.keepIn X.K (.ref f) = true)
    (ha : PA X (e :: es) (tIa X.K W ms)) (hdb : (x == ("__debug__" : Str)) = false) (he : starEach (e :: es) X.env = (false, eval e X.env) :: starEach es X.env) (hpl : (backTo pos (starEach es X.env)).any (·.1) = false) :
    PE X (.Call (.Name x p) (e :: es) [] pos) (tI X.K W (mCallF run [] n ms)) := by
  refine ⟨fun pins s σ H Q I ⟨ι, δ, M, hs, R, h⟩ => ?_⟩
  refine wpAny_Call_Name_kw (ld_glob I hg hm ?_ hdb)
  refine PySem.W.callWith_K (h₀ := X.base) I.ok.mod.kin hk (thn (ha.run pos pins s σ H _ I ⟨ι, δ, M, hs, R, Post.bind early_E hs R h⟩) fun us s1 ⟨vs, H1, I1, r, xs, ι1, M1, A1, hs1, R1, hx, h1⟩ => ⟨I1.kIn, ?_⟩) he hpl
  have h1 : Post X.K W σ ι1 H1 (relE X.K) (if xs.length = n then run (xs ++ []) M1 else .bad) Q := h1
  rw [List.append_nil] at h1
  split at h1
  · rename_i hn
    exact call_runH F hr hc tk I1 r R1 hx hn h1
  · exact h1.elim
end
section
open HotX L2H
variable {P : Program} {w : World} {K : PySem.W.Frag} {mg : Str → Option Value} {base : Heap} {f : Addr} {fd : FuncData} {k : Nat}
/-- a def's promise while an error is handled -/
theorem okH {x qual : Str} {params : Arguments} {body : List Stmt} {scope : Scope} {dvs : List V} {kws : List (Str × V)} {N ps : List Str} {m : DSt} (F : FunD K x qual params body scope dvs kws f fd) (S : FnScope N ps scope)
    (walk : ∀ (cdv : Value) (A : Around) (outer : List Env) (s : Shared) (H : Hp) (E : XK) (p : Addr × Obj), RoomH k (cxH (L2N.CX P w) P w K mg base N qual scope f cdv A outer s H E p).A → HotC (cxH (L2N.CX P w) P w K mg base N qual scope f cdv A outer s H E p) →
      L2N.Takes (cxH (L2N.CX P w) P w K mg base N qual scope f cdv A outer s H E p) (fun c d _ H => E c d H) → PSs (cxH (L2N.CX P w) P w K mg base N qual scope f cdv A outer s H E p) body (tIs K (fun c d _ H => E c d H) m)) :
    FnH P w K mg base (L2N.CX P w) (k + 1) f fd ps (spI K ps.length (fnRun N.length m)) := by
  obtain ⟨oc, od, dV, kV, doc, pm, an, cdv, ct, osl, rfl, lk, hcd, _, _⟩ := F.ex
  refine fn_ofH lk hcd S (fun vs H Q E h => h.1) fun A outer s H vs Q E p hot hr ⟨hl, ι, M, ds, R, hd, h⟩ => ?_
  refine ⟨_, walk cdv A outer s H E p hr ⟨p, hot, List.mem_cons_self⟩ (L2N.takes_of rfl rfl rfl rfl), ι, startD N.length ds, M, SR.start hd, R, ?_⟩
  unfold fnRun at h
  cases e : m (startD N.length ds) M with
  | nx δ M1 => rw [e] at h; exact fun ι' σ' H' A' R' s' => h ι' .non H' A' R' ⟨.v .non, trivial⟩
  | ret r M1 => rw [e] at h; exact fun ι' v H' A' R' r' f' => h ι' v H' A' R' ⟨r', f'⟩
  | brk δ M1 => rw [e] at h; exact h.elim
  | ct δ M1 => rw [e] at h; exact h.elim
  | exc x δ M1 => rw [e] at h; exact fun ι' c d σ' H' A' R' s' x' => h ι' c d H' A' R' x'
  | bad => rw [e] at h; exact h.elim
end
/-! ### words for suites and for defs called there -/
section
open HotX L2H
variable {P : Program} {w : World} {K : PySem.W.Frag} {mg : Str → Option Value} {base : Heap} {f : Addr} {fd : FuncData} {j k n : Nat} {ps : List Str} {run : Run} {X : Cx} {CX : CXT} {sp : Sp}
theorem fnH_mono (o : FnH P w K mg base CX j f fd ps sp) (h : j ≤ k) : FnH P w K mg base CX k f fd ps sp := ⟨o.len, fun A outer s H args us vs Q E p hr => o.run A outer s H args us vs Q E p (hr.mono h)⟩
theorem factH_of (G : FnH X.prog X.w X.K X.mg X.base (L2N.CX X.prog X.w) k f fd ps (spI X.K ps.length run)) (b : L2.Binds X.K fd ps []) (h : ps.length = n) : FnFactH X k f n run := ⟨fd, ps, G, b, h.symm⟩
theorem moH_nil {m : Str} : MethOkH X k m n (fun _ => none) := fun _ _ _ h => by cases h
theorem moH_cons {m c0 : Str} {meth : Str → Option (Run × List DV)} (cl : L2.Cls X.K (He.ga X.K c0)) (me : L2.Meth X.K (He.ga X.K c0) m f) (F : FnFactH X k f (n + 1) run) (r : MethOkH X k m n meth) :
    MethOkH X k m n (fun c => if c = c0 then some (run, []) else meth c) := fun c run' dvs' h => by
  dsimp only at h
  by_cases e : c = c0
  · rw [if_pos e] at h; cases h; subst e; exact ⟨rfl, f, cl, me, F⟩
  · rw [if_neg e] at h; exact r c _ _ h
theorem huH_of {A : Around} (hr : RoomH k A) : A.units + 65 < cLine := by have := hr.un; omega
theorem hu1H_of {A : Around} (hr : RoomH k A) : A.units + 1 < cLine := by have := hr.un; omega
end
theorem takesN0 {X : Cx} : L2N.Takes X (fun _ _ _ _ => False) := fun _ _ x => by
  obtain ⟨_, _, _, _, _, _, _, _, _, _, _, _, _, _, _, _, z⟩ := x
  exact z.elim

end
end Lk
end

section
set_option Elab.async false
set_option linter.all false
set_option maxRecDepth 100000
set_option maxHeartbeats 4000000
namespace Lk
open PySem PySem.Spec PyProof.Rows L2
noncomputable section
variable [Tbl] [Lnk]
/-! ## IV: calls with keywords -/
/-- the i-th of a list, as a list -/
def part {α : Type} (l : List α) (i : Nat) : List α := (l.drop i).take 1
theorem part_succ {α : Type} (x : α) (l : List α) (i : Nat) : part (x :: l) (i + 1) = part l i := rfl
theorem vals_part : ∀ {vs : List V} {us : List Value}, Vals vs us → ∀ i, Vals (part vs i) (part us i)
  | _, _, .nil, i => by unfold part; rw [List.drop_nil, List.drop_nil]; exact .nil
  | _, _, .cons h _, 0 => .cons h .nil
  | _, _, .cons _ t, i + 1 => vals_part t i
theorem vrs_part {K : PySem.W.Frag} {ι : List Addr} {H : Hp} : ∀ {ds : List DV} {vs : List V}, VRs K ι H ds vs → ∀ i, VRs K ι H (part ds i) (part vs i)
  | _, _, .nil, i => by unfold part; rw [List.drop_nil, List.drop_nil]; exact .nil
  | _, _, .cons h _, 0 => .cons h .nil
  | _, _, .cons _ t, i + 1 => vrs_part t i
/-- f with n arguments and the keywords ks is run: gD puts all values in the parameters' order -/
def FnFactN (X : Cx) (k : Nat) (f : Addr) (n : Nat) (ks : List Str) (run : Run) (gD : List DV → List DV → List DV) : Prop := ∃ fd ps g gV, FnG X.prog X.w X.K X.mg X.base (L2N.CX X.prog X.w) k f fd ps (spI X.K ps.length run) ∧ L2.KBn X.K fd ps n ks g gV ∧
  ∀ ι H xs vs zs ws, VRs X.K ι H xs vs → VRs X.K ι H zs ws → xs.length = n → zs.length = ks.length → VRs X.K ι H (gD xs zs) (gV vs ws) ∧ (gV vs ws).length = ps.length
abbrev Perm := List DV → List DV → List DV
def mCallK (run : Run) (g : Perm) (n m : Nat) (ms mk : DA) : DE := fun δ M => (ms δ M).bind fun xs M1 => (mk δ M1).bind fun zs M2 => if xs.length = n ∧ zs.length = m then run (g xs zs) M2 else .bad
def mMakeK (c : Str) (run : Run) (g : Perm) (n m : Nat) (ms mk : DA) : DE := fun δ M => (ms δ M).bind fun xs M1 => (mk δ M1).bind fun zs M2 => if xs.length = n ∧ zs.length = m then (run (g (.obj M2.length :: xs) zs) (M2.push (.ins c []))).bind fun r M3 => madeOf M2.length r M3 else .bad
def mMethK (meth : Str → Option (Run × Perm)) (nm : Str) (n m : Nat) (mo : DS → DM → Res DV) (ms mk : DA) : DE := fun δ M => (mo δ M).bind fun d M1 => match asI M1 (.v d) with
  | some (c, fs) => if fs.lookup nm = none then match meth c with
    | some (run, g) => (ms δ M1).bind fun xs M2 => (mk δ M2).bind fun zs M3 => if xs.length = n ∧ zs.length = m then run (g (d :: xs) zs) M3 else .bad
    | none => .bad
    else .bad
  | none => .bad
section
variable {X : Cx} {W : WX} {pins : List (Addr × Obj)} {σ : L2.St} {H : Hp} {s : Shared} {Q : VK} {ι : List Addr} {M : DM}
theorem call_runN {k n : Nat} {f : Addr} {ks : List Str} {run : Run} {gD : Perm} {xs zs : List DV} {vs ws : List V} {us uw : List Value} (F : FnFactN X k f n ks run gD) (hr : Room k X.A) (hG : X.A.guards = some []) (tk : L2N.Takes X W) (I : Inv X pins σ H s) (r : Vals vs us) (rw' : Vals ws uw)
    (R : Rep X.K ι H M) (hv : VRs X.K ι H xs vs) (hw : VRs X.K ι H zs ws) (hn : xs.length = n) (hm : zs.length = ks.length) (h : Post X.K W σ ι H (relE X.K) (run (gD xs zs) M) Q) : wpAny (model X.prog X.w) X.A (call (.ref f) us (ks.zip uw)) (EP X pins σ Q) X.xe s := by
  obtain ⟨fd, ps, g, gV, F, hb, hg⟩ := F
  obtain ⟨v, len⟩ := hg ι H xs vs zs ws hv hw hn hm
  have want : spI X.K ps.length run (gV vs ws) H Q (fun c d H => W c d σ H) := ⟨len, ι, M, gD xs zs, R, v, h⟩
  refine wpAny_call (codeAny_mono (F.run X.A X.stack s H ⟨us, ks.zip uw⟩ _ _ Q _ hr hG I.env0 (hb.to s us uw I.kIn (by rw [← r.length, ← hv.length, hn]) (by rw [← rw'.length, ← hw.length, hm])) (hb.rel r rw') want) fun r s' done => ?_)
  cases r with
  | error e => exact tk e s' (L2N.XE.of_call I (fun _ _ _ h => h) done)
  | ok fl =>
    cases fl
    case ret u => exact I.after done
    all_goals exact done.elim
/-- a new instance, by a call with keywords -/
theorem make_runN {k n : Nat} {f C : Addr} {c : Str} {ks : List Str} {run : Run} {gD : Perm} {xs zs : List DV} {vs ws : List V} {us uw : List Value} (hC : C = He.ga X.K c) (Mm : L2.Mk X.K C f) (F : FnFactN X k f (n + 1) ks run gD) (hr : Room (k + 1) X.A) (hG : X.A.guards = some []) (tk : L2N.Takes X W)
    (I : Inv X pins σ H s) (r : Vals vs us) (rw' : Vals ws uw) (R : Rep X.K ι H M) (hv : VRs X.K ι H xs vs) (hw : VRs X.K ι H zs ws) (hn : xs.length = n) (hm : zs.length = ks.length)
    (h : Post X.K W σ ι H (relE X.K) ((run (gD (.obj M.length :: xs) zs) (M.push (.ins c []))).bind fun r M2 => madeOf M.length r M2) Q) : wpAny (model X.prog X.w) X.A (call (.ref C) us (ks.zip uw)) (EP X pins σ Q) X.xe s := by
  subst hC
  obtain ⟨fd, ps, g, gV, F, hb, hg⟩ := F
  generalize ea : s.heap.objs.size = a
  have I2 := Inv.made (C := He.ga X.K c) I
  rw [ea] at I2
  have nx : H (a + 1) = none := I.hok.fresh (by rw [ea]; exact Nat.le_succ _)
  have nd : H a = none := I.hok.fresh (by rw [ea]; exact Nat.le_refl _)
  let H1 := upd (upd H a (.own (a + 1))) (a + 1) (.ins (He.ga X.K c) a [])
  have S2 : Same H H1 := Same.trans (Same.new nd) (Same.new (by rw [upd_ne (Nat.succ_ne_self _)]; exact nx))
  have nin : a + 1 ∉ ι := fun m => R.there m nx
  have R2 : Rep X.K (ι ++ [a + 1]) H1 (M.push (.ins c [])) := (R.same S2).snoc (o := .ins c []) nin upd_same ⟨_, _, rfl, .nil⟩
  have A2 : Aft ι H (ι ++ [a + 1]) H1 := (Aft.same S2).snoc (.inl nx)
  have hself : VR X.K (ι ++ [a + 1]) H1 (.obj M.length) (.ref (a + 1)) := .obj (by rw [← R.len]; simp)
  obtain ⟨v, len⟩ := hg (ι ++ [a + 1]) H1 (.obj M.length :: xs) (.ref (a + 1) :: vs) zs ws (.cons hself (hv.aft R A2)) (hw.aft R A2) (by rw [List.length_cons, hn]) hm
  have all : Vals (V.ref (a + 1) :: vs) (Value.ref (a + 1) :: us) := .cons rfl r
  have want : spI X.K ps.length run (gV (V.ref (a + 1) :: vs) ws) H1 (fun v H2 => v = .non ∧ Q (.ref (a + 1)) H2) (fun c d H => W c d σ H) := by
    refine ⟨len, ι ++ [a + 1], M.push (.ins c []), gD (.obj M.length :: xs) zs, R2, v, ?_⟩
    have h1 := Post.later early_E A2 R2 h
    cases e : run (gD (.obj M.length :: xs) zs) (M.push (.ins c [])) with
    | bad => rw [e] at h1; exact h1
    | exc x M' => rw [e] at h1; exact h1
    | ok r M' =>
      rw [e] at h1
      intro ι' v H' B R' rr
      have h1 : Post X.K W σ (ι ++ [a + 1]) _ (relE X.K) (madeOf M.length r M') Q := h1
      unfold madeOf at h1
      split at h1
      · cases vr_non rr.1
        exact ⟨rfl, h1 ι' _ H' B R' ⟨.v (hself.aft R2 B), trivial⟩⟩
      · exact h1.elim
  subst ea
  refine wpAny_call (make_map (f := f) I.kIn Mm.makes Mm.init (beq_iff_eq.mp Mm.fn) (codeAny_mono (F.run _ X.stack _ _ ⟨Value.ref (s.heap.objs.size + 1) :: us, ks.zip uw⟩ _ _ _ _ (hr.make (He.ga X.K c) us (ks.zip uw))
    (guards_make hG) (I2.env0.make (He.ga X.K c) us (ks.zip uw)) (hb.to _ (Value.ref (s.heap.objs.size + 1) :: us) uw I2.kIn (by rw [List.length_cons, ← r.length, ← hv.length, hn]) (by rw [← rw'.length, ← hw.length, hm])) (hb.rel all rw') want) fun r s' done => ?_))
  cases r with
  | error e => exact tk e s' (L2N.XE.of_call I2 (fun _ _ _ h => h) done)
  | ok fl =>
    cases fl
    case ret u =>
      obtain ⟨_, H', J, rv, rfl, fin⟩ := I2.after done
      exact ⟨rv, V.ref _, H', J, rfl, fin⟩
    all_goals exact done.elim
end
theorem ik_nil {X : Cx} {W : WX} : PK X [] (tIa X.K W mNil) := ⟨fun pos pins s σ H Q I ⟨ι, δ, M, hs, R, h⟩ => pk_nil.run pos pins s σ H Q I (Post.ret h R .nil)⟩
theorem ik_cons {X : Cx} {W : WX} {n : DS → DM → Res DV} {ns : DA} {e : Expr} {nm : Option Str} {kpos : Pos} {kws : List Keyword} (ha : PE X e (tIv X.K W n)) (hr : PK X kws (tIa X.K W ns)) : PK X (⟨nm, e, kpos⟩ :: kws) (tIa X.K W (mCons n ns)) :=
  ⟨fun pos pins s σ H Q I ⟨ι, δ, M, hs, R, h⟩ => (pk_cons ha hr).run pos pins s σ H Q I ⟨ι, δ, M, hs, R, (Post.bind early_A hs R h).imp (by
    rintro v H1 ⟨x, ι1, M1, A1, hs1, R1, hx, h1⟩
    refine ⟨ι1, δ, M1, hs1, R1, (Post.bind early_A hs1 R1 h1).imp ?_⟩
    rintro w H2 ⟨y, ι2, M2, A2, hs2, R2, hy, h2⟩
    exact Post.ret h2 R2 (.cons (VR.aft R1 A2 hx) hy))⟩⟩
section
variable {X : Cx} {W : WX} {x nm : Str} {p pos apos : Pos} {e o : Expr} {es : List Expr} {kws : List Keyword} {ks : List Str} {ms mk : DA} {mo : DS → DM → Res DV} {k n : Nat} {f C : Addr} {run : Run} {gD : Perm}
theorem iv_callK (F : FnFactN X k f n ks run gD) (hr : Room k X.A) (hG : X.A.guards = some []) (tk : L2N.Takes X W) (hg : Gl X x) (hm : X.mg x = some (.ref f)) (hk : PySem.W.keepIn X.K (.ref f) = true) (ha : PA X (e :: es) (tIa X.K W ms)) (hkw : PK X kws (tIa X.K W mk))
    (hdb : (x == ("__debug__" : Str)) = false) (hall : (backToKw pos (keywordEach kws X.env)).all (·.1.isSome) = true) (hks : (backToKw pos (keywordEach kws X.env)).filterMap (·.1) = ks) (he : starEach (e :: es) X.env = (false, eval e X.env) :: starEach es X.env)
    (hpl : ((backTo pos (starEach (e :: es) X.env)).any (·.1) || (backToKw pos (keywordEach kws X.env)).any (·.1.isNone)) = false) : PE X (.Call (.Name x p) (e :: es) kws pos) (tI X.K W (mCallK run gD n ks.length ms mk)) := by
  refine ⟨fun pins s σ H Q I ⟨ι, δ, M, hs, R, h⟩ => wpAny_Call_Name_kw (ld_glob I hg hm ?_ hdb)⟩
  refine PySem.W.callWith_KW (h₀ := X.base) I.ok.mod.kin hk hall (thn (ha.run pos pins s σ H _ I ⟨ι, δ, M, hs, R, Post.bind early_E hs R h⟩) fun us s1 ⟨vs, H1, I1, r, xs, ι1, M1, A1, hs1, R1, hx, h1⟩ => ?_) hpl he
  refine thn (hkw.run pos pins s1 σ H1 _ I1 ⟨ι1, δ, M1, hs1, R1, Post.bind early_E hs1 R1 h1⟩) fun uw s2 ⟨ws, H2, I2, rz, zs, ι2, M2, A2, hs2, R2, hz, h2⟩ => ⟨I2.kIn, ?_⟩
  rw [hks]
  try dsimp only at h2
  split at h2
  · rename_i hn
    exact call_runN F hr hG tk I2 r rz R2 (VRs.aft R1 A2 hx) hz hn.1 hn.2 h2
  · exact h2.elim
theorem iv_makeK {c : Str} (hC : C = He.ga X.K c) (Mm : L2.Mk X.K C f) (F : FnFactN X k f (n + 1) ks run gD) (hr : Room (k + 1) X.A) (hG : X.A.guards = some []) (tk : L2N.Takes X W) (hg : Gl X x) (hm : X.mg x = some (.ref C)) (ha : PA X (e :: es) (tIa X.K W ms)) (hkw : PK X kws (tIa X.K W mk))
    (hdb : (x == ("__debug__" : Str)) = false) (hall : (backToKw pos (keywordEach kws X.env)).all (·.1.isSome) = true) (hks : (backToKw pos (keywordEach kws X.env)).filterMap (·.1) = ks) (he : starEach (e :: es) X.env = (false, eval e X.env) :: starEach es X.env)
    (hpl : ((backTo pos (starEach (e :: es) X.env)).any (·.1) || (backToKw pos (keywordEach kws X.env)).any (·.1.isNone)) = false) : PE X (.Call (.Name x p) (e :: es) kws pos) (tI X.K W (mMakeK c run gD n ks.length ms mk)) := by
  refine ⟨fun pins s σ H Q I ⟨ι, δ, M, hs, R, h⟩ => wpAny_Call_Name_kw (ld_glob I hg hm ?_ hdb)⟩
  refine PySem.W.callWith_KW (h₀ := X.base) I.ok.mod.kin Mm.kp hall (thn (ha.run pos pins s σ H _ I ⟨ι, δ, M, hs, R, Post.bind early_E hs R h⟩) fun us s1 ⟨vs, H1, I1, r, xs, ι1, M1, A1, hs1, R1, hx, h1⟩ => ?_) hpl he
  refine thn (hkw.run pos pins s1 σ H1 _ I1 ⟨ι1, δ, M1, hs1, R1, Post.bind early_E hs1 R1 h1⟩) fun uw s2 ⟨ws, H2, I2, rz, zs, ι2, M2, A2, hs2, R2, hz, h2⟩ => ⟨I2.kIn, ?_⟩
  rw [hks]
  try dsimp only at h2
  split at h2
  · rename_i hn
    exact make_runN hC Mm F hr hG tk I2 r rz R2 (VRs.aft R1 A2 hx) hz hn.1 hn.2 h2
  · exact h2.elim
theorem iv_makeK0 {c : Str} (hC : C = He.ga X.K c) (Mm : L2.Mk X.K C f) (F : FnFactN X k f (0 + 1) ks run gD) (hr : Room (k + 1) X.A) (hG : X.A.guards = some []) (tk : L2N.Takes X W) (hg : Gl X x) (hm : X.mg x = some (.ref C)) (hkw : PK X kws (tIa X.K W mk))
    (hdb : (x == ("__debug__" : Str)) = false) (hall : (backToKw pos (keywordEach kws X.env)).all (·.1.isSome) = true) (hks : (backToKw pos (keywordEach kws X.env)).filterMap (·.1) = ks)
    (hpl : ((backTo pos (starEach [] X.env)).any (·.1) || (backToKw pos (keywordEach kws X.env)).any (·.1.isNone)) = false) : PE X (.Call (.Name x p) [] kws pos) (tI X.K W (mMakeK c run gD 0 ks.length mNil mk)) := by
  refine ⟨fun pins s σ H Q I ⟨ι, δ, M, hs, R, h⟩ => wpAny_Call_Name_kw (ld_glob I hg hm ?_ hdb)⟩
  refine PySem.W.callWith_KW0 (h₀ := X.base) I.ok.mod.kin Mm.kp hall ?_ hpl
  refine thn (hkw.run pos pins s σ H _ I ⟨ι, δ, M, hs, R, Post.bind early_E hs R h⟩) fun uw s2 ⟨ws, H2, I2, rz, zs, ι2, M2, A2, hs2, R2, hz, h2⟩ => ⟨I2.kIn, ?_⟩
  rw [hks]
  try dsimp only at h2
  split at h2
  · rename_i hn
    exact make_runN (us := []) (vs := []) (xs := []) hC Mm F hr hG tk I2 .nil rz R2 .nil hz hn.1 hn.2 h2
  · exact h2.elim
def MethOkN (X : Cx) (k : Nat) (m : Str) (n : Nat) (ks : List Str) (meth : Str → Option (Run × Perm)) : Prop := ∀ c run g, meth c = some (run, g) → ∃ f, L2.Cls X.K (He.ga X.K c) ∧ L2.Meth X.K (He.ga X.K c) m f ∧ FnFactN X k f (n + 1) ks run g
theorem iv_methK {pl : Sem Bool} {meth : Str → Option (Run × Perm)} (F : MethOkN X k nm n ks meth) (hr : Room k X.A) (hG : X.A.guards = some []) (tk : L2N.Takes X W) (ho : PE X o (tIv X.K W mo)) (ha : PA X (e :: es) (tIa X.K W ms)) (hkw : PK X kws (tIa X.K W mk))
    (hall : (backToKw pos (keywordEach kws X.env)).all (·.1.isSome) = true) (hks : (backToKw pos (keywordEach kws X.env)).filterMap (·.1) = ks) (he : starEach (e :: es) X.env = (false, eval e X.env) :: starEach es X.env)
    (hpl : ((backTo pos (starEach (e :: es) X.env)).any (·.1) || (backToKw pos (keywordEach kws X.env)).any (·.1.isNone)) = false)
    (ht : eval (.Call (.Attribute o nm apos) (e :: es) kws pos) X.env = eval o X.env >>= fun ov => standAt apos.atName >>= fun _ => holding [ov] (getMethod ov nm pl) >>= fun q => callWith pos q.1 q.2 (backTo pos (starEach (e :: es) X.env)) (backToKw pos (keywordEach kws X.env))) :
    PE X (.Call (.Attribute o nm apos) (e :: es) kws pos) (tI X.K W (mMethK meth nm n ks.length mo ms mk)) := by
  refine ⟨fun pins s σ H Q I ⟨ι, δ, M, hs, R, h⟩ => ?_⟩
  refine PySem.W.methodCall_KW (pl := pl) (thn (ho.run pins s σ H _ I ⟨ι, δ, M, hs, R, Post.bind early_E hs R h⟩) fun u s1 ⟨v, H1, I1, rx, d, ι1, M1, A1, hs1, R1, hx, h1⟩ => ?_) ht
  try dsimp only at h1
  split at h1
  · rename_i c fs ei
    split at h1
    · rename_i hl
      split at h1
      · rename_i run g em
        obtain ⟨f, cl, me, F⟩ := F c run g em
        obtain ⟨a, dx, es', rfl, gg, t⟩ := asI_ok R1 (.v hx) ei
        cases rx
        refine getmeth_ok I1 gg cl me (lookF_none t hl) ?_
        refine PySem.W.callWith_KW (first := [.ref a]) (h₀ := X.base) I.ok.mod.kin me.kp hall (thn (ha.run pos pins s1 σ H1 _ I1 ⟨ι1, δ, M1, hs1, R1, Post.bind early_E hs1 R1 h1⟩) fun us s2 ⟨vs, H2, I2, r, xs, ι2, M2, A2, hs2, R2, hy, h2⟩ => ?_) hpl he
        refine thn (hkw.run pos pins s2 σ H2 _ I2 ⟨ι2, δ, M2, hs2, R2, Post.bind early_E hs2 R2 h2⟩) fun uw s3 ⟨ws, H3, I3, rz, zs, ι3, M3, A3, hs3, R3, hz, h3⟩ => ⟨I3.kIn, ?_⟩
        rw [hks]
        try dsimp only at h3
        split at h3
        · rename_i hn
          exact call_runN (us := .ref a :: us) (vs := .ref a :: vs) (xs := d :: xs) F hr hG tk I3 (.cons rfl r) rz R3 (.cons (VR.aft R2 A3 (VR.aft R1 A2 hx)) (VRs.aft R2 A3 hy)) hz (by rw [List.length_cons, hn.1]) hn.2 h3
        · exact h3.elim
      · exact h1.elim
    · exact h1.elim
  · exact h1.elim
end

end
end Lk
end

section
set_option Elab.async false
set_option linter.all false
set_option maxRecDepth 100000
set_option maxHeartbeats 4000000
namespace Lk
open PySem PySem.Spec PyProof.Rows L2
noncomputable section
variable [Tbl] [Lnk]
section
variable {P : Program} {w : World} {K : PySem.W.Frag} {mg : Str → Option Value} {base : Heap}
def fld (c f : Str) : Bool := decide ((c, f) ∈ ([("Way", "of"), ("Way", "form"), ("Way", "factor"), ("Way", "more"), ("Way", "words"), ("Kinds", "ways"), ("Kinds", "rows")] : List (Str × Str)))
theorem hFld (T : Txt K mg w) : ∀ c f, fld c f = true → Cls K (He.ga K c) ∧ NoAttr K (He.ga K c) f := fun c f h => by
  have h := of_decide_eq_true h
  simp only [List.mem_cons, List.not_mem_nil, or_false, Prod.mk.injEq] at h
  rcases h with ⟨rfl, rfl⟩ | ⟨rfl, rfl⟩ | ⟨rfl, rfl⟩ | ⟨rfl, rfl⟩ | ⟨rfl, rfl⟩ | ⟨rfl, rfl⟩ | ⟨rfl, rfl⟩
  · exact ⟨T.cl_Way, T.no_Way_of⟩
  · exact ⟨T.cl_Way, T.no_Way_form⟩
  · exact ⟨T.cl_Way, T.no_Way_factor⟩
  · exact ⟨T.cl_Way, T.no_Way_more⟩
  · exact ⟨T.cl_Way, T.no_Way_words⟩
  · exact ⟨T.cl_Kinds, T.no_Kinds_ways⟩
  · exact ⟨T.cl_Kinds, T.no_Kinds_rows⟩
def tabs : Tabs := [("HIGHEST", [("s", .int 99), ("j", .int 99), ("r", .int 999999)])]
theorem hTabs (T : Txt K mg w) : TabsOk tabs K w := tabs_of (by
  have O := exT T.ex
  intro t ht p hp
  simp only [tabs, List.mem_cons, List.not_mem_nil, or_false] at ht
  rcases ht with rfl
  · simp only [List.mem_cons, List.not_mem_nil, or_false] at hp
    rcases hp with rfl | rfl | rfl
    · exact ⟨_, kdct_of T.kd_HIGHEST O.val_HIGHEST (q := ("s", .int 99)) (by simp), fun ι H => .int _⟩
    · exact ⟨_, kdct_of T.kd_HIGHEST O.val_HIGHEST (q := ("j", .int 99)) (by simp), fun ι H => .int _⟩
    · exact ⟨_, kdct_of T.kd_HIGHEST O.val_HIGHEST (q := ("r", .int 999999)) (by simp), fun ι H => .int _⟩
  )
end
/-! ### own exception classes whose __init__ calls the base's -/
section
variable {X : Cx} {CX : CXT} {k : Nat} {C f : Addr} {fd : FuncData} {ps : List Str} {sp : Sp} {dvs : List V} {ds : List Value} {E : XK} {cn m : Str} {p1 p2 pos : Pos} {e : Expr} {es : List Expr} {t : TA} {pl : Sem Bool}
/-- C.m(e, ..), m a function of the own class C -/
theorem pe_clsfn (hg : Gl X cn) (hm : X.mg cn = some (.ref C)) (hga : PySem.W.specialIn X.K (.ref C) "__getattribute__" = some (some (.builtin "type.__getattribute__"))) (hty : PySem.W.typeIn X.K (.ref C) = some (.type "type")) (hrd : PySem.W.readsIn X.K C (.type "type") = true)
    (hf : PySem.W.findCls X.K (.ref C) (.type "type") m = some (.val (.ref f))) (F : FnOk X.prog X.w X.K X.mg X.base CX k f fd ps sp) (hr : Room k X.A) (hk : PySem.W.keepIn X.K (.ref f) = true) (hb : L2.Binds X.K fd ps ds) (hd : Vals dvs ds) (hx : Passes CX X E) (ha : PA X (e :: es) t)
    (hc : eval (.Call (.Attribute (.Name cn p1) m p2) (e :: es) [] pos) X.env = (do
      let ov ← eval (.Name cn p1) X.env
      standAt p2.atName
      let (f, first) ← holding [ov] (getMethod ov m pl)
      callWith pos f first (backTo pos (starEach (e :: es) X.env)) (backToKw pos (keywordEach [] X.env))) := by rfl)
    (hdb : (cn == ("__debug__" : Str)) = false := by decide) (he : starEach (e :: es) X.env = (false, eval e X.env) :: starEach es X.env := by rfl) (hpl : (backTo pos (starEach es X.env)).any (·.1) = false := by rfl) :
    PE X (.Call (.Attribute (.Name cn p1) m p2) (e :: es) [] pos) (tCall sp dvs E t) where
  run pins s σ H Q I want :=
    have ⟨_, fr⟩ := I.fr
    have args := ha.run pos pins _ σ H _ (I.tok _) want
    have called := PySem.W.callWith_K (h₀ := X.base) I.ok.mod.kin hk (thn args fun us s1 ⟨_, _, I1, vals, want1⟩ => ⟨I1.kIn, run_fn F hr hb hd hx I1 vals want1⟩) he hpl
    PySem.W.methodCall_KW (ld_glob I hg hm (PySem.W.method_of_cls fr I.ok.mod.kin hga (PySem.W.cls_val fr I.ok.mod.kin hty hrd hf rfl called)) hdb) hc
end
/-- the exception at a, of the class C, its dict at dx with the fields fs; all else as in H -/
structure Made (H : Hp) (a dx C : Addr) (fs : List (Str × V)) (H' : Hp) : Prop where
  self_ : H' a = some (exo a C (some dx))
  dict : H' dx = some (exd dx fs)
  other : ∀ b, b ≠ a → b ≠ dx → H' b = H b
/-- C is raised with the fields fs -/
def Raised (C : Addr) (H : Hp) (E : XK) (fs : List (Str × V)) : Prop := ∀ (d : Addr) (H' : Hp), Same H H' → H' d = some (.xd fs) → E (.ref C) (some d) H'
theorem Raised.mono {C : Addr} {H H1 : Hp} {E : XK} {fs : List (Str × V)} (h : Raised C H E fs) (s : Same H H1) : Raised C H1 E fs := fun d H' s' hd => h d H' (fun b o e => s' b o (s b o e)) hd
theorem raised_made {C : Addr} {H : Hp} {E : XK} {fs : List (Str × V)} (h : Raised C H E fs) {a dx : Addr} {H2 : Hp} (ha : H a = none) (hd : upd H a (exo a C none) dx = none) (m : Made (upd H a (exo a C none)) a dx C fs H2) :
    V.non = V.non ∧ ∃ (d : Addr) (fs : List (Str × V)), H2 a = some (exo a C (some d)) ∧ H2 d = some (exd d fs) ∧ H d = none ∧ E (.ref C) (some d) (upd (del H2 a) d (.xd fs)) := by
  have ne : dx ≠ a := fun z => by rw [z, upd_same] at hd; cases hd
  have hd' : H dx = none := by rw [upd_ne ne] at hd; exact hd
  refine ⟨rfl, dx, fs, m.self_, m.dict, hd', h _ _ (fun b o hb => ?_) upd_same⟩
  have n1 : b ≠ a := ne_of_none hb ha
  have n2 : b ≠ dx := ne_of_none hb hd'
  rw [upd_ne n2, del_ne n1, m.other b n1 n2, upd_ne n1]
  exact hb
def sp_PEinit (K : PySem.W.Frag) : Sp := fun vs H Q _ => ∃ (a C : Addr) (y : V), vs = [.ref a, y] ∧ OexC K C ∧ PySem.W.findIn K (.ref C) "why" = some none ∧ H a = some (exo a C none) ∧ ∀ dx H', H dx = none → dx ≠ a → Made H a dx C [("why", y)] H' → Q .non H'
abbrev FnPE (K : PySem.W.Frag) (fd : FuncData) : Prop := FunD K "__init__" "PlaneError.__init__" (defArgs s_PEinit) (defBody s_PEinit) (defScope s_PEinit) [.str "invalid"] [] (He.fAd K ("PlaneError", some "__init__")) fd
theorem ok_PEinit {P : Program} {w : World} {K : PySem.W.Frag} {mg : Str → Option Value} {base : Heap} {fd : FuncData} (T : Txt K mg w) (F : FnPE K fd) : FnOk P w K mg base CX0 1 (He.fAd K ("PlaneError", some "__init__")) fd pss_PEinit (sp_PEinit K) := by
  have O := exT T.ex
  refine F.ok scs_PEinit (fun vs H Q E h => ?len) (fun cdv A outer s H vs Q E hr h => ?body)
  case len => obtain ⟨a, C, y, rfl, _⟩ := h; rfl
  case body =>
  obtain ⟨a, C, y, rfl, hO, hW, ha, k⟩ := h
  refine ⟨_, PSs.nox (pss_cons (ps_expr (pe_veinit (pl := _) rfl T.n_ValueError O.vei (pa_cons (pv 0) (pa_cons (pv 1) pa_nil)) rfl)) (pss_one (ps_ost (pv 0) (pv 1)))), ?_⟩
  refine ⟨_, rfl, _, rfl, a, C, [y], rfl, (by show 1 ≤ 1000; decide), hO, ha, ?_⟩
  refine ⟨_, rfl, _, rfl, a, C, rfl, hO, hW, .inl ⟨ha, fun dx hx nx => k dx _ hx nx ⟨upd_same, by rw [upd_ne nx, upd_same], fun b n1 n2 => by rw [upd_ne n1, upd_ne n2]⟩⟩⟩
theorem bi_PEinit {K : PySem.W.Frag} {fd : FuncData} (F : FnPE K fd) : L2.Binds K fd pss_PEinit [] := by
  obtain ⟨ds, hv, hb⟩ := FunD.binds1 (ps := pss_PEinit) F 2 1 (by simp) (by rfl) fun _ _ _ _ _ _ _ us its h1 h2 => match us, its, h1, h2 with | [_, _], [_], _, _ => ⟨_, rfl, rfl⟩
  cases hv
  exact hb
def sp_BadKindI (K : PySem.W.Frag) : Sp := fun vs H Q _ => ∃ (a : Addr) (x0 : V), vs = [.ref a, x0] ∧ H a = some (exo a (He.ga K "BadKind") none) ∧ ∀ dx H', H dx = none → dx ≠ a → Made H a dx (He.ga K "BadKind") [("kind", x0), ("why", .str "kind")] H' → Q .non H'
abbrev FnBadKindI (K : PySem.W.Frag) (fd : FuncData) : Prop := FunD K "__init__" "BadKind.__init__" (defArgs s_BadKindI) (defBody s_BadKindI) (defScope s_BadKindI) [] [] (He.fAd K ("BadKind", some "__init__")) fd
theorem ok_BadKindI {P : Program} {w : World} {K : PySem.W.Frag} {mg : Str → Option Value} {base : Heap} {fd : FuncData} (T : Txt K mg w) (F : FnBadKindI K fd) : FnOk P w K mg base CX0 2 (He.fAd K ("BadKind", some "__init__")) fd pss_BadKindI (sp_BadKindI K) := by
  have O := exT T.ex
  obtain ⟨fdp, Fp⟩ := T.d_PlaneError___init__
  have Gp := ok_PEinit (P := P) (w := w) (base := base) T Fp
  have bp := bi_PEinit Fp
  refine F.ok scs_BadKindI (fun vs H Q E h => ?len) (fun cdv A outer s H vs Q E hr h => ?body)
  case len => obtain ⟨a, x0, rfl, _⟩ := h; rfl
  case body =>
  obtain ⟨a, x0, rfl, ha, k⟩ := h
  refine ⟨_, PSs.nox (pss_cons (ps_expr (pe_clsfn (pl := _) rfl T.g_PlaneError O.bga_PlaneError O.bty_PlaneError O.brd_PlaneError O.bin_PlaneError Gp hr O.bkp_PlaneError bp .nil pass0 (pa_cons (pv 0) (pa_cons pe_str pa_nil)) rfl)) (pss_one (ps_ost (pv 0) (pv 1)))), ?_⟩
  refine ⟨_, rfl, a, He.ga K "BadKind", _, rfl, O.oex_BadKind, O.no_BadKind_why, ha, fun dx H1 hx nx m => ?_⟩
  refine ⟨_, rfl, _, rfl, a, He.ga K "BadKind", rfl, O.oex_BadKind, O.no_BadKind_kind, .inr ⟨dx, _, m.self_, m.dict, (by show 1 ≤ 900; decide), k dx _ hx nx ⟨?_, upd_same, fun b n1 n2 => ?_⟩⟩⟩
  · rw [upd_ne (Ne.symm nx)]; exact m.self_
  · rw [upd_ne n2]; exact m.other b n1 n2
theorem bi_BadKindI {K : PySem.W.Frag} {fd : FuncData} (F : FnBadKindI K fd) : L2.Binds K fd pss_BadKindI [] := F.bindsN (fun _ _ _ _ _ _ us hl => match us, hl with | [_, _], _ => rfl)
abbrev rs_BadKind : ExSpec := [("kind", .inr 0), ("why", .inl (.str "kind"))]
theorem RO_BadKind {X : Cx} (T : Txt X.K X.mg X.w) (hr : Room 3 X.A) (hg : Gl X "BadKind") : RaiseOk X "BadKind" 1 rs_BadKind := fun e es p pos ta ha he hpl => by
  have O := exT T.ex
  obtain ⟨fd, F⟩ := T.d_BadKind___init__
  have P := pmk_new (p := p) O.oex_BadKind O.ini_BadKind O.tin_BadKind (ok_BadKindI (P := X.prog) (w := X.w) (base := X.base) T F) hr (bi_BadKindI F) .nil pass0 hg T.g_BadKind (pa_mono ha) (by decide) he hpl
  intro pins s σ H Q I h
  refine P pins s σ H Q I ⟨_, h, fun vs H1 ⟨hl, k⟩ => ?_⟩
  match vs, hl, k with
  | [x0], _, k =>
    refine ⟨(by show 1 ≤ 1000; decide), fun a ha => ⟨a, x0, rfl, upd_same, fun dx H2 hx nx m => raised_made (E := Q) (fun d H' S hd => k [("kind", x0), ("why", .str "kind")] ?_ d H' S hd) ha hx m⟩⟩
    intro ι ds out hv ho
    match ds, hv with
    | [d0], .cons h0 .nil =>
      cases ho
      exact .cons ⟨rfl, h0⟩ (.cons ⟨rfl, .str _⟩ .nil)
def sp_BadFieldI (K : PySem.W.Frag) : Sp := fun vs H Q _ => ∃ (a : Addr) (x0 : V), vs = [.ref a, x0] ∧ H a = some (exo a (He.ga K "BadField") none) ∧ ∀ dx H', H dx = none → dx ≠ a → Made H a dx (He.ga K "BadField") [("field", x0), ("why", .str "field")] H' → Q .non H'
abbrev FnBadFieldI (K : PySem.W.Frag) (fd : FuncData) : Prop := FunD K "__init__" "BadField.__init__" (defArgs s_BadFieldI) (defBody s_BadFieldI) (defScope s_BadFieldI) [] [] (He.fAd K ("BadField", some "__init__")) fd
theorem ok_BadFieldI {P : Program} {w : World} {K : PySem.W.Frag} {mg : Str → Option Value} {base : Heap} {fd : FuncData} (T : Txt K mg w) (F : FnBadFieldI K fd) : FnOk P w K mg base CX0 2 (He.fAd K ("BadField", some "__init__")) fd pss_BadFieldI (sp_BadFieldI K) := by
  have O := exT T.ex
  obtain ⟨fdp, Fp⟩ := T.d_PlaneError___init__
  have Gp := ok_PEinit (P := P) (w := w) (base := base) T Fp
  have bp := bi_PEinit Fp
  refine F.ok scs_BadFieldI (fun vs H Q E h => ?len) (fun cdv A outer s H vs Q E hr h => ?body)
  case len => obtain ⟨a, x0, rfl, _⟩ := h; rfl
  case body =>
  obtain ⟨a, x0, rfl, ha, k⟩ := h
  refine ⟨_, PSs.nox (pss_cons (ps_expr (pe_clsfn (pl := _) rfl T.g_PlaneError O.bga_PlaneError O.bty_PlaneError O.brd_PlaneError O.bin_PlaneError Gp hr O.bkp_PlaneError bp .nil pass0 (pa_cons (pv 0) (pa_cons pe_str pa_nil)) rfl)) (pss_one (ps_ost (pv 0) (pv 1)))), ?_⟩
  refine ⟨_, rfl, a, He.ga K "BadField", _, rfl, O.oex_BadField, O.no_BadField_why, ha, fun dx H1 hx nx m => ?_⟩
  refine ⟨_, rfl, _, rfl, a, He.ga K "BadField", rfl, O.oex_BadField, O.no_BadField_field, .inr ⟨dx, _, m.self_, m.dict, (by show 1 ≤ 900; decide), k dx _ hx nx ⟨?_, upd_same, fun b n1 n2 => ?_⟩⟩⟩
  · rw [upd_ne (Ne.symm nx)]; exact m.self_
  · rw [upd_ne n2]; exact m.other b n1 n2
theorem bi_BadFieldI {K : PySem.W.Frag} {fd : FuncData} (F : FnBadFieldI K fd) : L2.Binds K fd pss_BadFieldI [] := F.bindsN (fun _ _ _ _ _ _ us hl => match us, hl with | [_, _], _ => rfl)
abbrev rs_BadField : ExSpec := [("field", .inr 0), ("why", .inl (.str "field"))]
theorem RO_BadField {X : Cx} (T : Txt X.K X.mg X.w) (hr : Room 3 X.A) (hg : Gl X "BadField") : RaiseOk X "BadField" 1 rs_BadField := fun e es p pos ta ha he hpl => by
  have O := exT T.ex
  obtain ⟨fd, F⟩ := T.d_BadField___init__
  have P := pmk_new (p := p) O.oex_BadField O.ini_BadField O.tin_BadField (ok_BadFieldI (P := X.prog) (w := X.w) (base := X.base) T F) hr (bi_BadFieldI F) .nil pass0 hg T.g_BadField (pa_mono ha) (by decide) he hpl
  intro pins s σ H Q I h
  refine P pins s σ H Q I ⟨_, h, fun vs H1 ⟨hl, k⟩ => ?_⟩
  match vs, hl, k with
  | [x0], _, k =>
    refine ⟨(by show 1 ≤ 1000; decide), fun a ha => ⟨a, x0, rfl, upd_same, fun dx H2 hx nx m => raised_made (E := Q) (fun d H' S hd => k [("field", x0), ("why", .str "field")] ?_ d H' S hd) ha hx m⟩⟩
    intro ι ds out hv ho
    match ds, hv with
    | [d0], .cons h0 .nil =>
      cases ho
      exact .cons ⟨rfl, h0⟩ (.cons ⟨rfl, .str _⟩ .nil)
def sp_BadShapeI (K : PySem.W.Frag) : Sp := fun vs H Q _ => ∃ (a : Addr) (x0 : V), vs = [.ref a, x0] ∧ H a = some (exo a (He.ga K "BadShape") none) ∧ ∀ dx H', H dx = none → dx ≠ a → Made H a dx (He.ga K "BadShape") [("bad", x0), ("why", .str "shape")] H' → Q .non H'
abbrev FnBadShapeI (K : PySem.W.Frag) (fd : FuncData) : Prop := FunD K "__init__" "BadShape.__init__" (defArgs s_BadShapeI) (defBody s_BadShapeI) (defScope s_BadShapeI) [] [] (He.fAd K ("BadShape", some "__init__")) fd
theorem ok_BadShapeI {P : Program} {w : World} {K : PySem.W.Frag} {mg : Str → Option Value} {base : Heap} {fd : FuncData} (T : Txt K mg w) (F : FnBadShapeI K fd) : FnOk P w K mg base CX0 2 (He.fAd K ("BadShape", some "__init__")) fd pss_BadShapeI (sp_BadShapeI K) := by
  have O := exT T.ex
  obtain ⟨fdp, Fp⟩ := T.d_PlaneError___init__
  have Gp := ok_PEinit (P := P) (w := w) (base := base) T Fp
  have bp := bi_PEinit Fp
  refine F.ok scs_BadShapeI (fun vs H Q E h => ?len) (fun cdv A outer s H vs Q E hr h => ?body)
  case len => obtain ⟨a, x0, rfl, _⟩ := h; rfl
  case body =>
  obtain ⟨a, x0, rfl, ha, k⟩ := h
  refine ⟨_, PSs.nox (pss_cons (ps_expr (pe_clsfn (pl := _) rfl T.g_PlaneError O.bga_PlaneError O.bty_PlaneError O.brd_PlaneError O.bin_PlaneError Gp hr O.bkp_PlaneError bp .nil pass0 (pa_cons (pv 0) (pa_cons pe_str pa_nil)) rfl)) (pss_one (ps_ost (pv 0) (pv 1)))), ?_⟩
  refine ⟨_, rfl, a, He.ga K "BadShape", _, rfl, O.oex_BadShape, O.no_BadShape_why, ha, fun dx H1 hx nx m => ?_⟩
  refine ⟨_, rfl, _, rfl, a, He.ga K "BadShape", rfl, O.oex_BadShape, O.no_BadShape_bad, .inr ⟨dx, _, m.self_, m.dict, (by show 1 ≤ 900; decide), k dx _ hx nx ⟨?_, upd_same, fun b n1 n2 => ?_⟩⟩⟩
  · rw [upd_ne (Ne.symm nx)]; exact m.self_
  · rw [upd_ne n2]; exact m.other b n1 n2
theorem bi_BadShapeI {K : PySem.W.Frag} {fd : FuncData} (F : FnBadShapeI K fd) : L2.Binds K fd pss_BadShapeI [] := F.bindsN (fun _ _ _ _ _ _ us hl => match us, hl with | [_, _], _ => rfl)
abbrev rs_BadShape : ExSpec := [("bad", .inr 0), ("why", .inl (.str "shape"))]
theorem RO_BadShape {X : Cx} (T : Txt X.K X.mg X.w) (hr : Room 3 X.A) (hg : Gl X "BadShape") : RaiseOk X "BadShape" 1 rs_BadShape := fun e es p pos ta ha he hpl => by
  have O := exT T.ex
  obtain ⟨fd, F⟩ := T.d_BadShape___init__
  have P := pmk_new (p := p) O.oex_BadShape O.ini_BadShape O.tin_BadShape (ok_BadShapeI (P := X.prog) (w := X.w) (base := X.base) T F) hr (bi_BadShapeI F) .nil pass0 hg T.g_BadShape (pa_mono ha) (by decide) he hpl
  intro pins s σ H Q I h
  refine P pins s σ H Q I ⟨_, h, fun vs H1 ⟨hl, k⟩ => ?_⟩
  match vs, hl, k with
  | [x0], _, k =>
    refine ⟨(by show 1 ≤ 1000; decide), fun a ha => ⟨a, x0, rfl, upd_same, fun dx H2 hx nx m => raised_made (E := Q) (fun d H' S hd => k [("bad", x0), ("why", .str "shape")] ?_ d H' S hd) ha hx m⟩⟩
    intro ι ds out hv ho
    match ds, hv with
    | [d0], .cons h0 .nil =>
      cases ho
      exact .cons ⟨rfl, h0⟩ (.cons ⟨rfl, .str _⟩ .nil)
def sp_BadRuleI (K : PySem.W.Frag) : Sp := fun vs H Q _ => ∃ (a : Addr) (x0 : V), vs = [.ref a, x0] ∧ H a = some (exo a (He.ga K "BadRule") none) ∧ ∀ dx H', H dx = none → dx ≠ a → Made H a dx (He.ga K "BadRule") [("at", x0), ("why", .str "rule")] H' → Q .non H'
abbrev FnBadRuleI (K : PySem.W.Frag) (fd : FuncData) : Prop := FunD K "__init__" "BadRule.__init__" (defArgs s_BadRuleI) (defBody s_BadRuleI) (defScope s_BadRuleI) [] [] (He.fAd K ("BadRule", some "__init__")) fd
theorem ok_BadRuleI {P : Program} {w : World} {K : PySem.W.Frag} {mg : Str → Option Value} {base : Heap} {fd : FuncData} (T : Txt K mg w) (F : FnBadRuleI K fd) : FnOk P w K mg base CX0 2 (He.fAd K ("BadRule", some "__init__")) fd pss_BadRuleI (sp_BadRuleI K) := by
  have O := exT T.ex
  obtain ⟨fdp, Fp⟩ := T.d_PlaneError___init__
  have Gp := ok_PEinit (P := P) (w := w) (base := base) T Fp
  have bp := bi_PEinit Fp
  refine F.ok scs_BadRuleI (fun vs H Q E h => ?len) (fun cdv A outer s H vs Q E hr h => ?body)
  case len => obtain ⟨a, x0, rfl, _⟩ := h; rfl
  case body =>
  obtain ⟨a, x0, rfl, ha, k⟩ := h
  refine ⟨_, PSs.nox (pss_cons (ps_expr (pe_clsfn (pl := _) rfl T.g_PlaneError O.bga_PlaneError O.bty_PlaneError O.brd_PlaneError O.bin_PlaneError Gp hr O.bkp_PlaneError bp .nil pass0 (pa_cons (pv 0) (pa_cons pe_str pa_nil)) rfl)) (pss_one (ps_ost (pv 0) (pv 1)))), ?_⟩
  refine ⟨_, rfl, a, He.ga K "BadRule", _, rfl, O.oex_BadRule, O.no_BadRule_why, ha, fun dx H1 hx nx m => ?_⟩
  refine ⟨_, rfl, _, rfl, a, He.ga K "BadRule", rfl, O.oex_BadRule, O.no_BadRule_at, .inr ⟨dx, _, m.self_, m.dict, (by show 1 ≤ 900; decide), k dx _ hx nx ⟨?_, upd_same, fun b n1 n2 => ?_⟩⟩⟩
  · rw [upd_ne (Ne.symm nx)]; exact m.self_
  · rw [upd_ne n2]; exact m.other b n1 n2
theorem bi_BadRuleI {K : PySem.W.Frag} {fd : FuncData} (F : FnBadRuleI K fd) : L2.Binds K fd pss_BadRuleI [] := F.bindsN (fun _ _ _ _ _ _ us hl => match us, hl with | [_, _], _ => rfl)
abbrev rs_BadRule : ExSpec := [("at", .inr 0), ("why", .inl (.str "rule"))]
theorem RO_BadRule {X : Cx} (T : Txt X.K X.mg X.w) (hr : Room 3 X.A) (hg : Gl X "BadRule") : RaiseOk X "BadRule" 1 rs_BadRule := fun e es p pos ta ha he hpl => by
  have O := exT T.ex
  obtain ⟨fd, F⟩ := T.d_BadRule___init__
  have P := pmk_new (p := p) O.oex_BadRule O.ini_BadRule O.tin_BadRule (ok_BadRuleI (P := X.prog) (w := X.w) (base := X.base) T F) hr (bi_BadRuleI F) .nil pass0 hg T.g_BadRule (pa_mono ha) (by decide) he hpl
  intro pins s σ H Q I h
  refine P pins s σ H Q I ⟨_, h, fun vs H1 ⟨hl, k⟩ => ?_⟩
  match vs, hl, k with
  | [x0], _, k =>
    refine ⟨(by show 1 ≤ 1000; decide), fun a ha => ⟨a, x0, rfl, upd_same, fun dx H2 hx nx m => raised_made (E := Q) (fun d H' S hd => k [("at", x0), ("why", .str "rule")] ?_ d H' S hd) ha hx m⟩⟩
    intro ι ds out hv ho
    match ds, hv with
    | [d0], .cons h0 .nil =>
      cases ho
      exact .cons ⟨rfl, h0⟩ (.cons ⟨rfl, .str _⟩ .nil)
def sp_LossyI (K : PySem.W.Frag) : Sp := fun vs H Q _ => ∃ (a : Addr) (x0 x1 : V), vs = [.ref a, x0, x1] ∧ H a = some (exo a (He.ga K "Lossy") none) ∧ ∀ dx H', H dx = none → dx ≠ a → Made H a dx (He.ga K "Lossy") [("other", x1), ("one", x0), ("why", .str "lossy")] H' → Q .non H'
abbrev FnLossyI (K : PySem.W.Frag) (fd : FuncData) : Prop := FunD K "__init__" "Lossy.__init__" (defArgs s_LossyI) (defBody s_LossyI) (defScope s_LossyI) [] [] (He.fAd K ("Lossy", some "__init__")) fd
theorem ok_LossyI {P : Program} {w : World} {K : PySem.W.Frag} {mg : Str → Option Value} {base : Heap} {fd : FuncData} (T : Txt K mg w) (F : FnLossyI K fd) : FnOk P w K mg base CX0 2 (He.fAd K ("Lossy", some "__init__")) fd pss_LossyI (sp_LossyI K) := by
  have O := exT T.ex
  obtain ⟨fdp, Fp⟩ := T.d_PlaneError___init__
  have Gp := ok_PEinit (P := P) (w := w) (base := base) T Fp
  have bp := bi_PEinit Fp
  refine F.ok scs_LossyI (fun vs H Q E h => ?len) (fun cdv A outer s H vs Q E hr h => ?body)
  case len => obtain ⟨a, x0, x1, rfl, _⟩ := h; rfl
  case body =>
  obtain ⟨a, x0, x1, rfl, ha, k⟩ := h
  refine ⟨_, PSs.nox (pss_cons (ps_expr (pe_clsfn (pl := _) rfl T.g_PlaneError O.bga_PlaneError O.bty_PlaneError O.brd_PlaneError O.bin_PlaneError Gp hr O.bkp_PlaneError bp .nil pass0 (pa_cons (pv 0) (pa_cons pe_str pa_nil)) rfl)) (pss_cons (ps_ost (pv 0) (pv 1)) (pss_one (ps_ost (pv 0) (pv 2))))), ?_⟩
  refine ⟨_, rfl, a, He.ga K "Lossy", _, rfl, O.oex_Lossy, O.no_Lossy_why, ha, fun dx H1 hx nx m => ?_⟩
  refine ⟨_, rfl, _, rfl, a, He.ga K "Lossy", rfl, O.oex_Lossy, O.no_Lossy_one, .inr ⟨dx, _, m.self_, m.dict, (by show 1 ≤ 900; decide), ?_⟩⟩
  refine ⟨_, rfl, _, rfl, a, He.ga K "Lossy", rfl, O.oex_Lossy, O.no_Lossy_other, .inr ⟨dx, _, ((upd_ne (Ne.symm nx)).trans <| m.self_), upd_same, (by show 2 ≤ 900; decide), k dx _ hx nx ⟨?_, upd_same, fun b n1 n2 => ?_⟩⟩⟩
  · rw [upd_ne (Ne.symm nx)]; rw [upd_ne (Ne.symm nx)]; exact m.self_
  · rw [upd_ne n2]; rw [upd_ne n2]; exact m.other b n1 n2
theorem bi_LossyI {K : PySem.W.Frag} {fd : FuncData} (F : FnLossyI K fd) : L2.Binds K fd pss_LossyI [] := F.bindsN (fun _ _ _ _ _ _ us hl => match us, hl with | [_, _, _], _ => rfl)
abbrev rs_Lossy : ExSpec := [("other", .inr 1), ("one", .inr 0), ("why", .inl (.str "lossy"))]
theorem RO_Lossy {X : Cx} (T : Txt X.K X.mg X.w) (hr : Room 3 X.A) (hg : Gl X "Lossy") : RaiseOk X "Lossy" 2 rs_Lossy := fun e es p pos ta ha he hpl => by
  have O := exT T.ex
  obtain ⟨fd, F⟩ := T.d_Lossy___init__
  have P := pmk_new (p := p) O.oex_Lossy O.ini_Lossy O.tin_Lossy (ok_LossyI (P := X.prog) (w := X.w) (base := X.base) T F) hr (bi_LossyI F) .nil pass0 hg T.g_Lossy (pa_mono ha) (by decide) he hpl
  intro pins s σ H Q I h
  refine P pins s σ H Q I ⟨_, h, fun vs H1 ⟨hl, k⟩ => ?_⟩
  match vs, hl, k with
  | [x0, x1], _, k =>
    refine ⟨(by show 2 ≤ 1000; decide), fun a ha => ⟨a, x0, x1, rfl, upd_same, fun dx H2 hx nx m => raised_made (E := Q) (fun d H' S hd => k [("other", x1), ("one", x0), ("why", .str "lossy")] ?_ d H' S hd) ha hx m⟩⟩
    intro ι ds out hv ho
    match ds, hv with
    | [d0, d1], .cons h0 (.cons h1 .nil) =>
      cases ho
      exact .cons ⟨rfl, h1⟩ (.cons ⟨rfl, h0⟩ (.cons ⟨rfl, .str _⟩ .nil))
theorem excB_xf {K : PySem.W.Frag} {C : Addr} (h : excB K C = true) : XfC K C := by
  simp only [excB, Bool.and_eq_true, decide_eq_true_eq] at h
  exact xfB_ok h.2.1
def xfd (c f : Str) : Bool := decide ((c, f) ∈ ([("BadKind", "why"), ("BadKind", "kind"), ("BadField", "why"), ("BadField", "field"), ("BadShape", "why"), ("BadShape", "bad"), ("BadRule", "why"), ("BadRule", "at"), ("Lossy", "why"), ("Lossy", "one"), ("Lossy", "other")] : List (Str × Str)))
theorem hXfd {K : PySem.W.Frag} {mg : Str → Option Value} {w : World} (T : Txt K mg w) : ∀ c f, xfd c f = true → XfC K (He.ga K c) ∧ PySem.W.findIn K (.ref (He.ga K c)) f = some none := fun c f h => by
  have O := exT T.ex
  have h := of_decide_eq_true h
  simp only [List.mem_cons, List.not_mem_nil, or_false, Prod.mk.injEq] at h
  rcases h with ⟨rfl, rfl⟩ | ⟨rfl, rfl⟩ | ⟨rfl, rfl⟩ | ⟨rfl, rfl⟩ | ⟨rfl, rfl⟩ | ⟨rfl, rfl⟩ | ⟨rfl, rfl⟩ | ⟨rfl, rfl⟩ | ⟨rfl, rfl⟩ | ⟨rfl, rfl⟩ | ⟨rfl, rfl⟩
  · exact ⟨excB_xf O.exc_BadKind, O.no_BadKind_why⟩
  · exact ⟨excB_xf O.exc_BadKind, O.no_BadKind_kind⟩
  · exact ⟨excB_xf O.exc_BadField, O.no_BadField_why⟩
  · exact ⟨excB_xf O.exc_BadField, O.no_BadField_field⟩
  · exact ⟨excB_xf O.exc_BadShape, O.no_BadShape_why⟩
  · exact ⟨excB_xf O.exc_BadShape, O.no_BadShape_bad⟩
  · exact ⟨excB_xf O.exc_BadRule, O.no_BadRule_why⟩
  · exact ⟨excB_xf O.exc_BadRule, O.no_BadRule_at⟩
  · exact ⟨excB_xf O.exc_Lossy, O.no_Lossy_why⟩
  · exact ⟨excB_xf O.exc_Lossy, O.no_Lossy_one⟩
  · exact ⟨excB_xf O.exc_Lossy, O.no_Lossy_other⟩
def exm_BadKind (k : Str) : Option Bool := ([("BadKind", true), ("BadField", false), ("BadShape", false), ("BadRule", false), ("Lossy", false)] : List (Str × Bool)).lookup k
theorem hExm_BadKind {K : PySem.W.Frag} {mg : Str → Option Value} {w : World} (T : Txt K mg w) : ∀ k b, exm_BadKind k = some b → PySem.W.exmOne K (.ref (He.ga K k)) (.ref (He.ga K "BadKind")) = some b := fun k b h => by
  have O := exT T.ex
  have h := PySem.mem_of_lookup h
  simp only [List.mem_cons, List.not_mem_nil, or_false, Prod.mk.injEq] at h
  rcases h with ⟨rfl, rfl⟩ | ⟨rfl, rfl⟩ | ⟨rfl, rfl⟩ | ⟨rfl, rfl⟩ | ⟨rfl, rfl⟩
  · exact O.exm_BadKind_BadKind
  · exact O.exm_BadField_BadKind
  · exact O.exm_BadShape_BadKind
  · exact O.exm_BadRule_BadKind
  · exact O.exm_Lossy_BadKind
end
end Lk
end

section
set_option Elab.async false
set_option linter.all false
set_option maxRecDepth 100000
set_option maxHeartbeats 4000000
namespace Lk
open PySem PySem.Spec PyProof.Rows L2
noncomputable section
instance tblI : Tbl := ⟨fun K => [(He.tabOf K (He.codeOf K ("_law_right", none)), "_law_right" ++ ".<locals>." ++ "<lambda>")]⟩
variable [Lnk]
section
variable {P : Program} {w : World} {K : PySem.W.Frag} {mg : Str → Option Value} {base : Heap} {fd : FuncData}
theorem bj_Way___init___3 {K : PySem.W.Frag} {fd : FuncData} (F : FunD K "__init__" "Way.__init__" (defArgs s_Way___init__) (defBody s_Way___init__) (defScope s_Way___init__) [.int 1, .int 0, .non] [] (He.fAd K ("Way", some "__init__")) fd) : ∃ ds, Vals (([.int 1, .int 0, .non] : List V).drop 0) ds ∧ Binds K fd ps_Way___init__ ds := FunD.binds1 F 3 0 (by simp) (by rfl) fun _ _ _ _ _ _ _ us its h1 h2 => match us, its, h1, h2 with | [_, _, _], [_, _, _], _, _ => ⟨_, rfl, rfl⟩
theorem bj_Way___init___0 {K : PySem.W.Frag} {fd : FuncData} (F : FunD K "__init__" "Way.__init__" (defArgs s_Way___init__) (defBody s_Way___init__) (defScope s_Way___init__) [.int 1, .int 0, .non] [] (He.fAd K ("Way", some "__init__")) fd) : ∃ ds, Vals (([.int 1, .int 0, .non] : List V).drop 3) ds ∧ Binds K fd ps_Way___init__ ds := FunD.binds1 F 6 3 (by simp) (by rfl) fun _ _ _ _ _ _ _ us its h1 h2 => match us, its, h1, h2 with | [_, _, _, _, _, _], [_, _, _], _, _ => ⟨_, rfl, rfl⟩
theorem bj_made_1 {K : PySem.W.Frag} {fd : FuncData} (F : FnP K "made" s_made [.bl true] fd) : ∃ ds, Vals (([.bl true] : List V).drop 0) ds ∧ Binds K fd ps_made ds := FunD.binds1 F 1 0 (by simp) (by rfl) fun _ _ _ _ _ _ _ us its h1 h2 => match us, its, h1, h2 with | [_], [_], _, _ => ⟨_, rfl, rfl⟩
theorem bj_made_0 {K : PySem.W.Frag} {fd : FuncData} (F : FnP K "made" s_made [.bl true] fd) : ∃ ds, Vals (([.bl true] : List V).drop 1) ds ∧ Binds K fd ps_made ds := FunD.binds1 F 2 1 (by simp) (by rfl) fun _ _ _ _ _ _ _ us its h1 h2 => match us, its, h1, h2 with | [_, _], [_], _, _ => ⟨_, rfl, rfl⟩
theorem bj_Way___init___1 {K : PySem.W.Frag} {fd : FuncData} (F : FunD K "__init__" "Way.__init__" (defArgs s_Way___init__) (defBody s_Way___init__) (defScope s_Way___init__) [.int 1, .int 0, .non] [] (He.fAd K ("Way", some "__init__")) fd) : ∃ ds, Vals (([.int 1, .int 0, .non] : List V).drop 2) ds ∧ Binds K fd ps_Way___init__ ds := FunD.binds1 F 5 2 (by simp) (by rfl) fun _ _ _ _ _ _ _ us its h1 h2 => match us, its, h1, h2 with | [_, _, _, _, _], [_, _, _], _, _ => ⟨_, rfl, rfl⟩
def m__wall : DSt :=
    (mSeq (mWhile 100 (mTru (mC (.bl true))) (mSeq mPass
      mPass))
    mPass)
def run__wall : Run := fnRun N__wall.length m__wall
/- _wall -/
theorem ok__wall (T : Txt K mg w) (F : FnP K "_wall" s__wall [] fd) : FnG P w K mg base (L2N.CX P w) 1 (He.ga K "_wall") fd ps__wall (spI K ps__wall.length run__wall) := by
  refine okI F sc__wall fun cdv A outer s H E hr hG tk hp => ?_
  have hu := hu_of hr
  have hu1 := hu1_of hr
  have hu64 := hu64_of hr
  have hT := hTabs T
  have hF := hFld T
  exact (is_cons (is_while hp (iv_tru iv_bl (by intro _; rfl)) (is_cons is_pass
      is_nil))
    is_nil)
def m_is_integer : DSt :=
    (mSeq (mRet (mAndV (mBlt bIsi (mConsR (mVar 0) (mConsR (mC (.ty "int")) mNilR))) (mNotV (mBlt bIsi (mConsR (mVar 0) (mConsR (mC (.ty "bool")) mNilR))))))
    mPass)
def run_is_integer : Run := fnRun N_is_integer.length m_is_integer
/- is_integer -/
theorem ok_is_integer (T : Txt K mg w) (F : FnP K "is_integer" s_is_integer [] fd) : FnG P w K mg base (L2N.CX P w) 1 (He.ga K "is_integer") fd ps_is_integer (spI K ps_is_integer.length run_is_integer) := by
  refine okI F sc_is_integer fun cdv A outer s H E hr hG tk hp => ?_
  have hu := hu_of hr
  have hu1 := hu1_of hr
  have hu64 := hu64_of hr
  have hT := hTabs T
  have hF := hFld T
  exact (is_cons (is_ret (iv_andV (wb cb_isi T.n_isinstance (by decide +kernel) (ir_cons (wv 0) (ir_cons (wty (by decide +kernel) T.n_int) ir_nil (by rfl)) (by rfl))) (iv_one (iv_notV (wb cb_isi T.n_isinstance (by decide +kernel) (ir_cons (wv 0) (ir_cons (wty (by decide +kernel) T.n_bool) ir_nil (by rfl)) (by rfl)))))))
    is_nil)
def m_is_user_name : DSt :=
    (mSeq (mIfS (mOrT (mNotT (mTru (mBlt bIsi (mConsR (mVar 0) (mConsR (mC (.ty "str")) mNilR))))) (mOrT (mNotT (mChainT (opCmp .LtE) (opCmp .LtE) (mC (.int 1)) (mBlt bLen (mConsR (mVar 0) mNilR)) (mC (.int 10)))) (mCmpT (opCmp .NotIn) (mBin (opIx tabs) (mVar 0) (mC (.int 0))) (mC (.str "abcdefghijklmnopqrstuvwxyz"))))) (mSeq (mRet (mC (.bl false)))
      mPass) mPass)
    (mSeq (mRet (mBlt bAll (mConsR (mLc (mIter (mVar 0)) (.nm 1) mYes (mV (mCmp (opCmp .In) (mVar 1) (mBin opAdd (mC (.str "abcdefghijklmnopqrstuvwxyz")) (mC (.str "0123456789"))))) [1]) mNilR)))
    mPass))
def run_is_user_name : Run := fnRun N_is_user_name.length m_is_user_name
/- is_user_name -/
theorem ok_is_user_name (T : Txt K mg w) (F : FnP K "is_user_name" s_is_user_name [] fd) : FnG P w K mg base (L2N.CX P w) 1 (He.ga K "is_user_name") fd ps_is_user_name (spI K ps_is_user_name.length run_is_user_name) := by
  obtain ⟨t_DIGITS, h_DIGITS⟩ := T.c_DIGITS
  obtain ⟨t_MOST_SIGNS_names, h_MOST_SIGNS_names⟩ := T.c_MOST_SIGNS_names
  obtain ⟨t_SMALL, h_SMALL⟩ := T.c_SMALL
  refine okI F sc_is_user_name fun cdv A outer s H E hr hG tk hp => ?_
  have hu := hu_of hr
  have hu1 := hu1_of hr
  have hu64 := hu64_of hr
  have hT := hTabs T
  have hF := hFld T
  exact (is_cons (is_if (PW.pt (iv_orT (iv_notT (iv_tru (wb cb_isi T.n_isinstance (by decide +kernel) (ir_cons (wv 0) (ir_cons (wty (by decide +kernel) T.n_str) ir_nil (by rfl)) (by rfl))) (by intro _; rfl))) (iv_orT (iv_notT (iv_chainT hu iv_int (wb cb_len T.n_len (by decide +kernel) (ir_cons (wv 0) ir_nil (by rfl))) (wgI h_MOST_SIGNS_names) (by rfl))) (iv_or1 (iv_cmpT (op := .NotIn) hu (iv_ix hT hu (wv 0) iv_int (fun _ _ => rfl)) (wgS h_SMALL) (by rfl)))))) (is_cons (is_ret iv_bl)
      is_nil) is_nil)
    (is_cons (is_ret (wb (cb_all rfl) T.n_all (by decide +kernel) (ir_cons (iv_lc (own := [("sign", 1)]) rfl sc_is_user_name.nd (ii_iter (wv 0)) (blkOk_by (own := [("sign", 1)]) (by kernel_rfl)) (fun _ _ _ _ _ => (gnm 1 sc_is_user_name.nd)) (fun _ _ _ _ _ => its_nil) (fun _ _ _ _ _ => (iv_v (iv_cmp (op := .In) hu (wv 1) (iv_op opAdd_ok (wgS h_SMALL) (wgS h_DIGITS)) (by rfl)))) (fun _ => rfl)) ir_nil (by rfl))))
    is_nil))
def m_number_of : DSt :=
    (mSeq (mIfS (mOrT (mNotT (mChainT (opCmp .LtE) (opCmp .LtE) (mC (.int 1)) (mBlt bLen (mConsR (mVar 0) mNilR)) (mBlt bLen (mConsR (mBlt bStr (mConsR (mVar 1) mNilR)) mNilR)))) (mNotT (mTru (mBlt bAll (mConsR (mLc (mIter (mVar 0)) (.nm 2) mYes (mV (mCmp (opCmp .In) (mVar 2) (mC (.str "0123456789")))) [2]) mNilR))))) (mSeq (mRet (mC .non))
      mPass) mPass)
    (mSeq (mRet (mIte (mCmpT (opCmpX .Eq) (mBlt bStr (mConsR (mBlt bInt (mConsR (mVar 0) mNilR)) mNilR)) (mVar 0)) (mBlt bInt (mConsR (mVar 0) mNilR)) (mC .non)))
    mPass))
def run_number_of : Run := fnRun N_number_of.length m_number_of
/- number_of -/
theorem ok_number_of (T : Txt K mg w) (F : FnP K "number_of" s_number_of [] fd) : FnG P w K mg base (L2N.CX P w) 1 (He.ga K "number_of") fd ps_number_of (spI K ps_number_of.length run_number_of) := by
  obtain ⟨t_DIGITS, h_DIGITS⟩ := T.c_DIGITS
  refine okI F sc_number_of fun cdv A outer s H E hr hG tk hp => ?_
  have hu := hu_of hr
  have hu1 := hu1_of hr
  have hu64 := hu64_of hr
  have hT := hTabs T
  have hF := hFld T
  exact (is_cons (is_if (PW.pt (iv_orT (iv_notT (iv_chainT hu iv_int (wb cb_len T.n_len (by decide +kernel) (ir_cons (wv 0) ir_nil (by rfl))) (wb cb_len T.n_len (by decide +kernel) (ir_cons (wt cb_str T.n_str (by decide +kernel) (ir_cons (wv 1) ir_nil (by rfl))) ir_nil (by rfl))) (by rfl))) (iv_or1 (iv_notT (iv_tru (wb (cb_all rfl) T.n_all (by decide +kernel) (ir_cons (iv_lc (own := [("sign", 2)]) rfl sc_number_of.nd (ii_iter (wv 0)) (blkOk_by (own := [("sign", 2)]) (by kernel_rfl)) (fun _ _ _ _ _ => (gnm 2 sc_number_of.nd)) (fun _ _ _ _ _ => its_nil) (fun _ _ _ _ _ => (iv_v (iv_cmp (op := .In) hu (wv 2) (wgS h_DIGITS) (by rfl)))) (fun _ => rfl)) ir_nil (by rfl))) (by intro _; rfl)))))) (is_cons (is_ret iv_non)
      is_nil) is_nil)
    (is_cons (is_ret (iv_ite (iv_cmpXT (op := .Eq) hu (wt cb_str T.n_str (by decide +kernel) (ir_cons (wt cb_int T.n_int (by decide +kernel) (ir_cons (wv 0) ir_nil (by rfl))) ir_nil (by rfl))) (wv 0) (by rfl)) (wt cb_int T.n_int (by decide +kernel) (ir_cons (wv 0) ir_nil (by rfl))) iv_non))
    is_nil))
def m_part_of : DSt :=
    (mSeq (mIfS (mCmpT (opCmpX .Eq) (mVar 0) (mC (.str "n"))) (mSeq (mRet (mIte (mTru (mCallF run_is_user_name [] 1 (mCons (mV (mVar 1)) mNil))) (mVar 1) (mC .non)))
      mPass) mPass)
    (mSeq (mRet (mCallF run_number_of [] 2 (mCons (mV (mVar 1)) (mCons (mV (mBin (opIx tabs) (mC (.glo "HIGHEST")) (mVar 0))) mNil))))
    mPass))
def run_part_of : Run := fnRun N_part_of.length m_part_of
/- part_of -/
theorem ok_part_of (T : Txt K mg w) (F : FnP K "part_of" s_part_of [] fd) : FnG P w K mg base (L2N.CX P w) 2 (He.ga K "part_of") fd ps_part_of (spI K ps_part_of.length run_part_of) := by
  obtain ⟨fd_is_user_name, F_is_user_name⟩ := T.d_is_user_name
  have G_is_user_name := (ok_is_user_name (P := P) (w := w) (base := base) T F_is_user_name)
  have k_is_user_name := F_is_user_name.kp
  have b_is_user_name := bi_is_user_name F_is_user_name
  obtain ⟨fd_number_of, F_number_of⟩ := T.d_number_of
  have G_number_of := (ok_number_of (P := P) (w := w) (base := base) T F_number_of)
  have k_number_of := F_number_of.kp
  have b_number_of := bi_number_of F_number_of
  refine okI F sc_part_of fun cdv A outer s H E hr hG tk hp => ?_
  have hu := hu_of hr
  have hu1 := hu1_of hr
  have hu64 := hu64_of hr
  have hT := hTabs T
  have hF := hFld T
  exact (is_cons (is_if (iv_cmpXT (op := .Eq) hu (wv 0) iv_str (by rfl)) (is_cons (is_ret (iv_ite (iv_tru (iv_call (fact_of G_is_user_name b_is_user_name rfl) hr hG tk rfl T.g_is_user_name k_is_user_name (ia_cons (iv_v (wv 1)) ia_nil (by rfl)) (by decide) rfl rfl) (by intro _; rfl)) (wv 1) iv_non))
      is_nil) is_nil)
    (is_cons (is_ret (iv_call (fact_of G_number_of b_number_of rfl) hr hG tk rfl T.g_number_of k_number_of (ia_cons (iv_v (wv 1)) (ia_cons (iv_v (iv_ix hT hu (wgO T.g_HIGHEST) (wv 0) (fun _ _ => rfl))) ia_nil (by rfl)) (by rfl)) (by decide) rfl rfl))
    is_nil))
def m_apart (run_apart run_is_maker : Run) : DSt :=
    (mSeq (mIfS (mOrT (mNotT (mTru (mBlt bIsi (mConsR (mVar 0) (mConsR (mC (.ty "str")) mNilR))))) (mOrT (mCmpT (opCmp .Gt) (mBlt bLen (mConsR (mVar 0) mNilR)) (mC (.int 22))) (mCmpT (opCmp .NotIn) (mC (.str "-")) (mVar 0)))) (mSeq (mRet (mC .non))
      mPass) mPass)
    (mSeq (mAsg (mV (mMtR "str" gRsplit (mV (mVar 0)) (mConsR (mC (.str "-")) (mConsR (mC (.int 1)) mNilR)))) (gTupM 2 (gConsM (gNameM 1) (gConsM (gNameM 2) gNilM))))
    (mSeq (mIfS (mCmpT (opCmp .NotIn) (mSl (mVar 2) mNoPart (mPart (mC (.int 1)))) (mTup (mCons (mV (mC (.str "s"))) (mCons (mV (mC (.str "j"))) (mCons (mV (mC (.str "n"))) (mCons (mV (mC (.str "r"))) mNil)))))) (mSeq (mRet (mC .non))
      mPass) mPass)
    (mSeq (mSet 3 (mV (mCallF run_part_of [] 2 (mCons (mV (mBin (opIx tabs) (mVar 2) (mC (.int 0)))) (mCons (mV (mSl (mVar 2) (mPart (mC (.int 1))) mNoPart)) mNil)))))
    (mSeq (mIfS (mOrT (mCmpT (opCmp .Is) (mVar 3) (mC .non)) (mNotT (mTru (mCallF run_is_maker [] 2 (mCons (mV (mVar 1)) (mCons (mV (mBin (opIx tabs) (mVar 2) (mC (.int 0)))) mNil)))))) (mSeq (mRet (mC .non))
      mPass) mPass)
    (mSeq (mRet (mTup (mCons (mV (mVar 1)) (mCons (mV (mBin (opIx tabs) (mVar 2) (mC (.int 0)))) (mCons (mV (mVar 3)) mNil)))))
    mPass))))))
def m_is_maker (run_apart run_is_maker : Run) : DSt :=
    (mSeq (mIfS (mTru (mCallF run_is_user_name [] 1 (mCons (mV (mVar 0)) mNil))) (mSeq (mRet (mC (.bl true)))
      mPass) mPass)
    (mSeq (mIfS (mCmpT (opCmpX .NotEq) (mVar 1) (mC (.str "s"))) (mSeq (mRet (mC (.bl false)))
      mPass) mPass)
    (mSeq (mSet 2 (mV (mCallF run_apart [] 1 (mCons (mV (mVar 0)) mNil))))
    (mSeq (mRet (mAndV (mCmp (opCmp .IsNot) (mVar 2) (mC .non)) (mCmp (opCmpX .Eq) (mBin (opIx tabs) (mVar 2) (mC (.int 1))) (mC (.str "r")))))
    mPass))))
def rr_apart : Nat → Run × Run
  | 0 => ((fun _ _ => .bad), (fun _ _ => .bad))
  | d + 1 => match rr_apart d with
    | (run_apart, run_is_maker) => (fnRun N_apart.length (m_apart run_apart run_is_maker), fnRun N_is_maker.length (m_is_maker run_apart run_is_maker))
/- apart -/
theorem st_apart {k : Nat} {run_apart run_is_maker : Run} (hk : 2 ≤ k) (T : Txt K mg w) (F : FnP K "apart" s_apart [] fd) (hh_apart : ∀ fd, FnP K "apart" s_apart [] fd → FnG P w K mg base (L2N.CX P w) k (He.ga K "apart") fd ps_apart (spI K ps_apart.length run_apart)) (hh_is_maker : ∀ fd, FnP K "is_maker" s_is_maker [] fd → FnG P w K mg base (L2N.CX P w) k (He.ga K "is_maker") fd ps_is_maker (spI K ps_is_maker.length run_is_maker)) : FnG P w K mg base (L2N.CX P w) (k + 1) (He.ga K "apart") fd ps_apart (spI K ps_apart.length (fnRun N_apart.length (m_apart run_apart run_is_maker))) := by
  obtain ⟨fd_is_maker, F_is_maker⟩ := T.d_is_maker
  have G_is_maker := hh_is_maker _ F_is_maker
  have k_is_maker := F_is_maker.kp
  have b_is_maker := bi_is_maker F_is_maker
  obtain ⟨fd_part_of, F_part_of⟩ := T.d_part_of
  have G_part_of := (ok_part_of (P := P) (w := w) (base := base) T F_part_of)
  have G_part_of := FnG.mono (k := k) G_part_of (by omega)
  have k_part_of := F_part_of.kp
  have b_part_of := bi_part_of F_part_of
  obtain ⟨t_MOST_MADE, h_MOST_MADE⟩ := T.c_MOST_MADE
  refine okI F sc_apart fun cdv A outer s H E hr hG tk hp => ?_
  have hu := hu_of hr
  have hu1 := hu1_of hr
  have hu64 := hu64_of hr
  have hT := hTabs T
  have hF := hFld T
  exact (is_cons (is_if (PW.pt (iv_orT (iv_notT (iv_tru (wb cb_isi T.n_isinstance (by decide +kernel) (ir_cons (wv 0) (ir_cons (wty (by decide +kernel) T.n_str) ir_nil (by rfl)) (by rfl))) (by intro _; rfl))) (iv_orT (iv_cmpT (op := .Gt) hu (wb cb_len T.n_len (by decide +kernel) (ir_cons (wv 0) ir_nil (by rfl))) (wgI h_MOST_MADE) (by rfl)) (iv_or1 (iv_cmpT (op := .NotIn) hu iv_str (wv 0) (by rfl)))))) (is_cons (is_ret iv_non)
      is_nil) is_nil)
    (is_cons (wasg (iv_v (wmR PySem.F.plainAttrs_str PySem.F.slot_str_rsplit PySem.F.type_str_rsplit mg_rsplit (iv_v (wv 0)) (ir_cons iv_str (ir_cons iv_int ir_nil (by rfl)) (by rfl)))) (ig_tup rfl (igs_cons (igm 1 sc_apart.nd) (igs_cons (igm 2 sc_apart.nd) igs_nil (by rfl)) (by rfl)) (by rfl) (by rfl)) (nx_tup (nx_cons (nx_cons nx_nil))))
    (is_cons (is_if (iv_cmpT (op := .NotIn) hu (iv_sl (wv 2) io_none (io_some iv_int)) (iv_tup (ia_cons (iv_v iv_str) (ia_cons (iv_v iv_str) (ia_cons (iv_v iv_str) (ia_cons (iv_v iv_str) ia_nil (by rfl)) (by rfl)) (by rfl)) (by rfl))) (by rfl)) (is_cons (is_ret iv_non)
      is_nil) is_nil)
    (is_cons (wset 3 sc_apart.nd (iv_v (iv_call (fact_of G_part_of b_part_of rfl) hr hG tk rfl T.g_part_of k_part_of (ia_cons (iv_v (iv_ix hT hu (wv 2) iv_int (fun _ _ => rfl))) (ia_cons (iv_v (iv_sl (wv 2) (io_some iv_int) io_none)) ia_nil (by rfl)) (by rfl)) (by decide) rfl rfl)))
    (is_cons (is_if (PW.pt (iv_orT (iv_cmpT (op := .Is) hu (wv 3) iv_non (by rfl)) (iv_or1 (iv_notT (iv_tru (iv_call (fact_of G_is_maker b_is_maker rfl) hr hG tk rfl T.g_is_maker k_is_maker (ia_cons (iv_v (wv 1)) (ia_cons (iv_v (iv_ix hT hu (wv 2) iv_int (fun _ _ => rfl))) ia_nil (by rfl)) (by rfl)) (by decide) rfl rfl) (by intro _; rfl)))))) (is_cons (is_ret iv_non)
      is_nil) is_nil)
    (is_cons (is_ret (iv_tup (ia_cons (iv_v (wv 1)) (ia_cons (iv_v (iv_ix hT hu (wv 2) iv_int (fun _ _ => rfl))) (ia_cons (iv_v (wv 3)) ia_nil (by rfl)) (by rfl)) (by rfl))))
    is_nil))))))
/- is_maker -/
theorem st_is_maker {k : Nat} {run_apart run_is_maker : Run} (hk : 2 ≤ k) (T : Txt K mg w) (F : FnP K "is_maker" s_is_maker [] fd) (hh_apart : ∀ fd, FnP K "apart" s_apart [] fd → FnG P w K mg base (L2N.CX P w) k (He.ga K "apart") fd ps_apart (spI K ps_apart.length run_apart)) (hh_is_maker : ∀ fd, FnP K "is_maker" s_is_maker [] fd → FnG P w K mg base (L2N.CX P w) k (He.ga K "is_maker") fd ps_is_maker (spI K ps_is_maker.length run_is_maker)) : FnG P w K mg base (L2N.CX P w) (k + 1) (He.ga K "is_maker") fd ps_is_maker (spI K ps_is_maker.length (fnRun N_is_maker.length (m_is_maker run_apart run_is_maker))) := by
  obtain ⟨fd_apart, F_apart⟩ := T.d_apart
  have G_apart := hh_apart _ F_apart
  have k_apart := F_apart.kp
  have b_apart := bi_apart F_apart
  obtain ⟨fd_is_user_name, F_is_user_name⟩ := T.d_is_user_name
  have G_is_user_name := (ok_is_user_name (P := P) (w := w) (base := base) T F_is_user_name)
  have G_is_user_name := FnG.mono (k := k) G_is_user_name (by omega)
  have k_is_user_name := F_is_user_name.kp
  have b_is_user_name := bi_is_user_name F_is_user_name
  refine okI F sc_is_maker fun cdv A outer s H E hr hG tk hp => ?_
  have hu := hu_of hr
  have hu1 := hu1_of hr
  have hu64 := hu64_of hr
  have hT := hTabs T
  have hF := hFld T
  exact (is_cons (is_if (iv_tru (iv_call (fact_of G_is_user_name b_is_user_name rfl) hr hG tk rfl T.g_is_user_name k_is_user_name (ia_cons (iv_v (wv 0)) ia_nil (by rfl)) (by decide) rfl rfl) (by intro _; rfl)) (is_cons (is_ret iv_bl)
      is_nil) is_nil)
    (is_cons (is_if (iv_cmpXT (op := .NotEq) hu (wv 1) iv_str (by rfl)) (is_cons (is_ret iv_bl)
      is_nil) is_nil)
    (is_cons (wset 2 sc_is_maker.nd (iv_v (iv_call (fact_of G_apart b_apart rfl) hr hG tk rfl T.g_apart k_apart (ia_cons (iv_v (wv 0)) ia_nil (by rfl)) (by decide) rfl rfl)))
    (is_cons (is_ret (iv_andV (iv_cmp (op := .IsNot) hu (wv 2) iv_non (by rfl)) (iv_one (iv_cmpX (op := .Eq) hu (iv_ix hT hu (wv 2) iv_int (fun _ _ => rfl)) iv_str (by rfl)))))
    is_nil))))
theorem all_apart (T : Txt K mg w) : ∀ d : Nat, (∀ fd, FnP K "apart" s_apart [] fd → FnG P w K mg base (L2N.CX P w) (3 + d) (He.ga K "apart") fd ps_apart (spI K ps_apart.length (rr_apart d).1)) ∧ (∀ fd, FnP K "is_maker" s_is_maker [] fd → FnG P w K mg base (L2N.CX P w) (3 + d) (He.ga K "is_maker") fd ps_is_maker (spI K ps_is_maker.length (rr_apart d).2))
  | 0 => ⟨fun _ _ => bad_fn, fun _ _ => bad_fn⟩
  | d + 1 => by
    have h := all_apart T d
    have e : rr_apart (d + 1) = match rr_apart d with
      | (run_apart, run_is_maker) => (fnRun N_apart.length (m_apart run_apart run_is_maker), fnRun N_is_maker.length (m_is_maker run_apart run_is_maker)) := rfl
    rw [e]
    exact ⟨fun fd F => st_apart (k := 3 + d) (by omega) T F (h).1 (h).2, fun fd F => st_is_maker (k := 3 + d) (by omega) T F (h).1 (h).2⟩
def run_apart : Run := (rr_apart 10).1
theorem ok_apart (T : Txt K mg w) (F : FnP K "apart" s_apart [] fd) : FnG P w K mg base (L2N.CX P w) 13 (He.ga K "apart") fd ps_apart (spI K ps_apart.length run_apart) := (all_apart T 10).1 _ F
def run_is_maker : Run := (rr_apart 10).2
theorem ok_is_maker (T : Txt K mg w) (F : FnP K "is_maker" s_is_maker [] fd) : FnG P w K mg base (L2N.CX P w) 13 (He.ga K "is_maker") fd ps_is_maker (spI K ps_is_maker.length run_is_maker) := (all_apart T 10).2 _ F
def m_is_name : DSt :=
    (mSeq (mRet (mOrV (mCallF run_is_user_name [] 1 (mCons (mV (mVar 0)) mNil)) (mCmp (opCmp .IsNot) (mCallF run_apart [] 1 (mCons (mV (mVar 0)) mNil)) (mC .non))))
    mPass)
def run_is_name : Run := fnRun N_is_name.length m_is_name
/- is_name -/
theorem ok_is_name (T : Txt K mg w) (F : FnP K "is_name" s_is_name [] fd) : FnG P w K mg base (L2N.CX P w) 14 (He.ga K "is_name") fd ps_is_name (spI K ps_is_name.length run_is_name) := by
  obtain ⟨fd_apart, F_apart⟩ := T.d_apart
  have G_apart := (ok_apart (P := P) (w := w) (base := base) T F_apart)
  have k_apart := F_apart.kp
  have b_apart := bi_apart F_apart
  obtain ⟨fd_is_user_name, F_is_user_name⟩ := T.d_is_user_name
  have G_is_user_name := (ok_is_user_name (P := P) (w := w) (base := base) T F_is_user_name)
  have G_is_user_name := FnG.mono (k := 13) G_is_user_name (by decide)
  have k_is_user_name := F_is_user_name.kp
  have b_is_user_name := bi_is_user_name F_is_user_name
  refine okI F sc_is_name fun cdv A outer s H E hr hG tk hp => ?_
  have hu := hu_of hr
  have hu1 := hu1_of hr
  have hu64 := hu64_of hr
  have hT := hTabs T
  have hF := hFld T
  exact (is_cons (is_ret (iv_orV (iv_call (fact_of G_is_user_name b_is_user_name rfl) hr hG tk rfl T.g_is_user_name k_is_user_name (ia_cons (iv_v (wv 0)) ia_nil (by rfl)) (by decide) rfl rfl) (iv_one (iv_cmp (op := .IsNot) hu (iv_call (fact_of G_apart b_apart rfl) hr hG tk rfl T.g_apart k_apart (ia_cons (iv_v (wv 0)) ia_nil (by rfl)) (by decide) rfl rfl) iv_non (by rfl)))))
    is_nil)
def m_is_label_value : DSt :=
    (mSeq (mIfS (mOrT (mNotT (mTru (mBlt bIsi (mConsR (mVar 0) (mConsR (mC (.ty "str")) mNilR))))) (mCmpT (opCmp .Gt) (mBlt bLen (mConsR (mVar 0) mNilR)) (mC (.int 24)))) (mSeq (mRet (mC (.bl false)))
      mPass) mPass)
    (mSeq (mRet (mBlt bAll (mConsR (mLc (mIter (mVar 0)) (.nm 1) mYes (mV (mCmp (opCmp .In) (mVar 1) (mBin opAdd (mBin opAdd (mC (.str "abcdefghijklmnopqrstuvwxyz")) (mC (.str "0123456789"))) (mC (.str "-"))))) [1]) mNilR)))
    mPass))
def run_is_label_value : Run := fnRun N_is_label_value.length m_is_label_value
/- is_label_value -/
theorem ok_is_label_value (T : Txt K mg w) (F : FnP K "is_label_value" s_is_label_value [] fd) : FnG P w K mg base (L2N.CX P w) 1 (He.ga K "is_label_value") fd ps_is_label_value (spI K ps_is_label_value.length run_is_label_value) := by
  obtain ⟨t_DIGITS, h_DIGITS⟩ := T.c_DIGITS
  obtain ⟨t_MOST_LETTERS, h_MOST_LETTERS⟩ := T.c_MOST_LETTERS
  obtain ⟨t_SMALL, h_SMALL⟩ := T.c_SMALL
  refine okI F sc_is_label_value fun cdv A outer s H E hr hG tk hp => ?_
  have hu := hu_of hr
  have hu1 := hu1_of hr
  have hu64 := hu64_of hr
  have hT := hTabs T
  have hF := hFld T
  exact (is_cons (is_if (PW.pt (iv_orT (iv_notT (iv_tru (wb cb_isi T.n_isinstance (by decide +kernel) (ir_cons (wv 0) (ir_cons (wty (by decide +kernel) T.n_str) ir_nil (by rfl)) (by rfl))) (by intro _; rfl))) (iv_or1 (iv_cmpT (op := .Gt) hu (wb cb_len T.n_len (by decide +kernel) (ir_cons (wv 0) ir_nil (by rfl))) (wgI h_MOST_LETTERS) (by rfl))))) (is_cons (is_ret iv_bl)
      is_nil) is_nil)
    (is_cons (is_ret (wb (cb_all rfl) T.n_all (by decide +kernel) (ir_cons (iv_lc (own := [("sign", 1)]) rfl sc_is_label_value.nd (ii_iter (wv 0)) (blkOk_by (own := [("sign", 1)]) (by kernel_rfl)) (fun _ _ _ _ _ => (gnm 1 sc_is_label_value.nd)) (fun _ _ _ _ _ => its_nil) (fun _ _ _ _ _ => (iv_v (iv_cmp (op := .In) hu (wv 1) (iv_op opAdd_ok (iv_op opAdd_ok (wgS h_SMALL) (wgS h_DIGITS)) iv_str) (by rfl)))) (fun _ => rfl)) ir_nil (by rfl))))
    is_nil))
def m_requirement : DSt :=
    (mSeq (mIfS (mCmpT (opCmpX .Eq) (mSl (mVar 0) mNoPart (mPart (mC (.int 1)))) (mC (.str "!"))) (mSeq (mSet 1 (mV (mTup (mCons (mV (mSl (mVar 0) (mPart (mC (.int 1))) mNoPart)) (mCons (mV (mC (.str "missing"))) (mCons (mV (mC (.str ""))) mNil))))))
      mPass) (mSeq (mIfS (mCmpT (opCmp .In) (mC (.str "!=")) (mVar 0)) (mSeq (mAsg (mV (mMtR "str" gSplit (mV (mVar 0)) (mConsR (mC (.str "!=")) (mConsR (mC (.int 1)) mNilR)))) (gTupM 2 (gConsM (gNameM 2) (gConsM (gNameM 3) gNilM))))
        (mSeq (mSet 1 (mV (mTup (mCons (mV (mVar 2)) (mCons (mV (mC (.str "not"))) (mCons (mV (mVar 3)) mNil))))))
        mPass)) (mSeq (mIfS (mCmpT (opCmp .In) (mC (.str "=")) (mVar 0)) (mSeq (mAsg (mV (mMtR "str" gSplit (mV (mVar 0)) (mConsR (mC (.str "=")) (mConsR (mC (.int 1)) mNilR)))) (gTupM 2 (gConsM (gNameM 2) (gConsM (gNameM 3) gNilM))))
          (mSeq (mSet 1 (mV (mTup (mCons (mV (mVar 2)) (mCons (mV (mC (.str "is"))) (mCons (mV (mVar 3)) mNil))))))
          mPass)) (mSeq (mSet 1 (mV (mTup (mCons (mV (mVar 0)) (mCons (mV (mC (.str "there"))) (mCons (mV (mC (.str ""))) mNil))))))
          mPass))
        mPass))
      mPass))
    (mSeq (mRet (mIte (mAndT (mTru (mCallF run_is_user_name [] 1 (mCons (mV (mBin (opIx tabs) (mVar 1) (mC (.int 0)))) mNil))) (mTru (mCallF run_is_label_value [] 1 (mCons (mV (mBin (opIx tabs) (mVar 1) (mC (.int 2)))) mNil)))) (mVar 1) (mC .non)))
    mPass))
def run_requirement : Run := fnRun N_requirement.length m_requirement
/- requirement -/
theorem ok_requirement (T : Txt K mg w) (F : FnP K "requirement" s_requirement [] fd) : FnG P w K mg base (L2N.CX P w) 2 (He.ga K "requirement") fd ps_requirement (spI K ps_requirement.length run_requirement) := by
  obtain ⟨fd_is_label_value, F_is_label_value⟩ := T.d_is_label_value
  have G_is_label_value := (ok_is_label_value (P := P) (w := w) (base := base) T F_is_label_value)
  have k_is_label_value := F_is_label_value.kp
  have b_is_label_value := bi_is_label_value F_is_label_value
  obtain ⟨fd_is_user_name, F_is_user_name⟩ := T.d_is_user_name
  have G_is_user_name := (ok_is_user_name (P := P) (w := w) (base := base) T F_is_user_name)
  have k_is_user_name := F_is_user_name.kp
  have b_is_user_name := bi_is_user_name F_is_user_name
  refine okI F sc_requirement fun cdv A outer s H E hr hG tk hp => ?_
  have hu := hu_of hr
  have hu1 := hu1_of hr
  have hu64 := hu64_of hr
  have hT := hTabs T
  have hF := hFld T
  exact (is_cons (is_if (iv_cmpXT (op := .Eq) hu (iv_sl (wv 0) io_none (io_some iv_int)) iv_str (by rfl)) (is_cons (wset 1 sc_requirement.nd (iv_v (iv_tup (ia_cons (iv_v (iv_sl (wv 0) (io_some iv_int) io_none)) (ia_cons (iv_v iv_str) (ia_cons (iv_v iv_str) ia_nil (by rfl)) (by rfl)) (by rfl)))))
      is_nil) (is_cons (is_if (iv_cmpT (op := .In) hu iv_str (wv 0) (by rfl)) (is_cons (wasg (iv_v (wmR PySem.F.plainAttrs_str PySem.F.slot_str_split PySem.F.type_str_split mg_split (iv_v (wv 0)) (ir_cons iv_str (ir_cons iv_int ir_nil (by rfl)) (by rfl)))) (ig_tup rfl (igs_cons (igm 2 sc_requirement.nd) (igs_cons (igm 3 sc_requirement.nd) igs_nil (by rfl)) (by rfl)) (by rfl) (by rfl)) (nx_tup (nx_cons (nx_cons nx_nil))))
        (is_cons (wset 1 sc_requirement.nd (iv_v (iv_tup (ia_cons (iv_v (wv 2)) (ia_cons (iv_v iv_str) (ia_cons (iv_v (wv 3)) ia_nil (by rfl)) (by rfl)) (by rfl)))))
        is_nil)) (is_cons (is_if (iv_cmpT (op := .In) hu iv_str (wv 0) (by rfl)) (is_cons (wasg (iv_v (wmR PySem.F.plainAttrs_str PySem.F.slot_str_split PySem.F.type_str_split mg_split (iv_v (wv 0)) (ir_cons iv_str (ir_cons iv_int ir_nil (by rfl)) (by rfl)))) (ig_tup rfl (igs_cons (igm 2 sc_requirement.nd) (igs_cons (igm 3 sc_requirement.nd) igs_nil (by rfl)) (by rfl)) (by rfl) (by rfl)) (nx_tup (nx_cons (nx_cons nx_nil))))
          (is_cons (wset 1 sc_requirement.nd (iv_v (iv_tup (ia_cons (iv_v (wv 2)) (ia_cons (iv_v iv_str) (ia_cons (iv_v (wv 3)) ia_nil (by rfl)) (by rfl)) (by rfl)))))
          is_nil)) (is_cons (wset 1 sc_requirement.nd (iv_v (iv_tup (ia_cons (iv_v (wv 0)) (ia_cons (iv_v iv_str) (ia_cons (iv_v iv_str) ia_nil (by rfl)) (by rfl)) (by rfl)))))
          is_nil))
        is_nil))
      is_nil))
    (is_cons (is_ret (iv_ite (PW.pt (iv_andT (iv_tru (iv_call (fact_of G_is_user_name b_is_user_name rfl) hr hG tk rfl T.g_is_user_name k_is_user_name (ia_cons (iv_v (iv_ix hT hu (wv 1) iv_int (fun _ _ => rfl))) ia_nil (by rfl)) (by decide) rfl rfl) (by intro _; rfl)) (iv_and1 (iv_tru (iv_call (fact_of G_is_label_value b_is_label_value rfl) hr hG tk rfl T.g_is_label_value k_is_label_value (ia_cons (iv_v (iv_ix hT hu (wv 1) iv_int (fun _ _ => rfl))) ia_nil (by rfl)) (by decide) rfl rfl) (by intro _; rfl))))) (wv 1) iv_non))
    is_nil))
def m_rows_of : DSt :=
    (mSeq (mIfS (mNotT (mTru (mBlt bIsi (mConsR (mVar 0) (mConsR (mC (.ty "str")) mNilR))))) (mSeq (mRet (mC .non))
      mPass) mPass)
    (mSeq (mIfS (mCmpT (opCmpX .Eq) (mVar 0) (mC (.str ""))) (mSeq (mRet (mLst mNil))
      mPass) mPass)
    (mSeq (mSet 1 (mV (mMtR "str" gSplit (mV (mVar 0)) (mConsR (mC (.str ",")) mNilR))))
    (mSeq (mIfS (mCmpT (opCmp .Gt) (mBlt bLen (mConsR (mVar 1) mNilR)) (mC (.int 8))) (mSeq (mRet (mC .non))
      mPass) mPass)
    (mSeq (mSet 2 (mV (mLc (mIter (mLc (mIter (mVar 1)) (.nm 4) mYes (mV (mCallF run_requirement [] 1 (mCons (mV (mVar 4)) mNil))) [4])) (.nm 3) (mCmpT (opCmp .IsNot) (mVar 3) (mC .non)) (mV (mVar 3)) [3])))
    (mSeq (mRet (mIte (mCmpT (opCmpX .Eq) (mBlt bLen (mConsR (mVar 2) mNilR)) (mBlt bLen (mConsR (mVar 1) mNilR))) (mVar 2) (mC .non)))
    mPass))))))
def run_rows_of : Run := fnRun N_rows_of.length m_rows_of
/- rows_of -/
theorem ok_rows_of (T : Txt K mg w) (F : FnP K "rows_of" s_rows_of [] fd) : FnG P w K mg base (L2N.CX P w) 3 (He.ga K "rows_of") fd ps_rows_of (spI K ps_rows_of.length run_rows_of) := by
  obtain ⟨fd_requirement, F_requirement⟩ := T.d_requirement
  have G_requirement := (ok_requirement (P := P) (w := w) (base := base) T F_requirement)
  have k_requirement := F_requirement.kp
  have b_requirement := bi_requirement F_requirement
  obtain ⟨t_MOST_REQUIREMENTS, h_MOST_REQUIREMENTS⟩ := T.c_MOST_REQUIREMENTS
  refine okI F sc_rows_of fun cdv A outer s H E hr hG tk hp => ?_
  have hu := hu_of hr
  have hu1 := hu1_of hr
  have hu64 := hu64_of hr
  have hT := hTabs T
  have hF := hFld T
  exact (is_cons (is_if (iv_notT (iv_tru (wb cb_isi T.n_isinstance (by decide +kernel) (ir_cons (wv 0) (ir_cons (wty (by decide +kernel) T.n_str) ir_nil (by rfl)) (by rfl))) (by intro _; rfl))) (is_cons (is_ret iv_non)
      is_nil) is_nil)
    (is_cons (is_if (iv_cmpXT (op := .Eq) hu (wv 0) iv_str (by rfl)) (is_cons (is_ret (iv_lst ia_nil))
      is_nil) is_nil)
    (is_cons (wset 1 sc_rows_of.nd (iv_v (wmR PySem.F.plainAttrs_str PySem.F.slot_str_split PySem.F.type_str_split mg_split (iv_v (wv 0)) (ir_cons iv_str ir_nil (by rfl)))))
    (is_cons (is_if (iv_cmpT (op := .Gt) hu (wb cb_len T.n_len (by decide +kernel) (ir_cons (wv 1) ir_nil (by rfl))) (wgI h_MOST_REQUIREMENTS) (by rfl)) (is_cons (is_ret iv_non)
      is_nil) is_nil)
    (is_cons (is_setLc (i := 2) (own := [("row", 3)]) rfl sc_rows_of.nd rfl rfl (sw_true rfl rfl rfl (by decide +kernel)) (ii_iter (iv_lc (own := [("part", 4)]) rfl sc_rows_of.nd (ii_iter (wv 1)) (blkOk_by (own := [("part", 4)]) (by kernel_rfl)) (fun _ _ _ _ _ => (gnm 4 sc_rows_of.nd)) (fun _ _ _ _ _ => its_nil) (fun _ _ _ _ _ => (iv_v (iv_call (fact_of G_requirement b_requirement rfl) hr hG takesN0 rfl T.g_requirement k_requirement (ia_cons (iv_v (wv 4)) ia_nil (by rfl)) (by decide) rfl rfl))) (fun _ => rfl))) (blkOk_by (own := [("row", 3)]) (by kernel_rfl)) (fun _ _ _ _ _ => (gnm 3 sc_rows_of.nd)) (fun _ _ _ _ _ => (its_one (iv_cmpT (op := .IsNot) hu (wv 3) iv_non (by rfl)))) (fun _ _ _ _ _ => (iv_v (wv 3))) (fun _ => rfl))
    (is_cons (is_ret (iv_ite (iv_cmpXT (op := .Eq) hu (wb cb_len T.n_len (by decide +kernel) (ir_cons (wv 2) ir_nil (by rfl))) (wb cb_len T.n_len (by decide +kernel) (ir_cons (wv 1) ir_nil (by rfl))) (by rfl)) (wv 2) iv_non))
    is_nil))))))
def m_is_selector : DSt :=
    (mSeq (mRet (mCmp (opCmp .IsNot) (mCallF run_rows_of [] 1 (mCons (mV (mVar 0)) mNil)) (mC .non)))
    mPass)
def run_is_selector : Run := fnRun N_is_selector.length m_is_selector
/- is_selector -/
theorem ok_is_selector (T : Txt K mg w) (F : FnP K "is_selector" s_is_selector [] fd) : FnG P w K mg base (L2N.CX P w) 4 (He.ga K "is_selector") fd ps_is_selector (spI K ps_is_selector.length run_is_selector) := by
  obtain ⟨fd_rows_of, F_rows_of⟩ := T.d_rows_of
  have G_rows_of := (ok_rows_of (P := P) (w := w) (base := base) T F_rows_of)
  have k_rows_of := F_rows_of.kp
  have b_rows_of := bi_rows_of F_rows_of
  refine okI F sc_is_selector fun cdv A outer s H E hr hG tk hp => ?_
  have hu := hu_of hr
  have hu1 := hu1_of hr
  have hu64 := hu64_of hr
  have hT := hTabs T
  have hF := hFld T
  exact (is_cons (is_ret (iv_cmp (op := .IsNot) hu (iv_call (fact_of G_rows_of b_rows_of rfl) hr hG tk rfl T.g_rows_of k_rows_of (ia_cons (iv_v (wv 0)) ia_nil (by rfl)) (by decide) rfl rfl) iv_non (by rfl)))
    is_nil)
def m_is_bounded : DSt :=
    (mSeq (mRet (mAndV (mCallF run_is_integer [] 1 (mCons (mV (mVar 0)) mNil)) (mChain (opCmp .Lt) (opCmp .Lt) (mNeg (mC (.int 1000000000))) (mVar 0) (mC (.int 1000000000)))))
    mPass)
def run_is_bounded : Run := fnRun N_is_bounded.length m_is_bounded
/- is_bounded -/
theorem ok_is_bounded (T : Txt K mg w) (F : FnP K "is_bounded" s_is_bounded [] fd) : FnG P w K mg base (L2N.CX P w) 2 (He.ga K "is_bounded") fd ps_is_bounded (spI K ps_is_bounded.length run_is_bounded) := by
  obtain ⟨fd_is_integer, F_is_integer⟩ := T.d_is_integer
  have G_is_integer := (ok_is_integer (P := P) (w := w) (base := base) T F_is_integer)
  have k_is_integer := F_is_integer.kp
  have b_is_integer := bi_is_integer F_is_integer
  obtain ⟨t_BOUND, h_BOUND⟩ := T.c_BOUND
  refine okI F sc_is_bounded fun cdv A outer s H E hr hG tk hp => ?_
  have hu := hu_of hr
  have hu1 := hu1_of hr
  have hu64 := hu64_of hr
  have hT := hTabs T
  have hF := hFld T
  exact (is_cons (is_ret (iv_andV (iv_call (fact_of G_is_integer b_is_integer rfl) hr hG tk rfl T.g_is_integer k_is_integer (ia_cons (iv_v (wv 0)) ia_nil (by rfl)) (by decide) rfl rfl) (iv_one (iv_chain hu (iv_neg (wgI h_BOUND)) (wv 0) (wgI h_BOUND) (by rfl)))))
    is_nil)
def m_is_sort : DSt :=
    (mSeq (mIfS (mOrT (mNotT (mTru (mBlt bIsi (mConsR (mVar 0) (mConsR (mC (.ty "tuple")) mNilR))))) (mOrT (mCmpT (opCmpX .Eq) (mVar 0) (mTup mNil)) (mNotT (mTru (mBlt bIsi (mConsR (mBin (opIx tabs) (mVar 0) (mC (.int 0))) (mConsR (mC (.ty "str")) mNilR))))))) (mSeq (mRet (mC (.bl false)))
      mPass) mPass)
    (mSeq (mIfS (mCmpT (opCmpX .Eq) (mBin (opIx tabs) (mVar 0) (mC (.int 0))) (mC (.str "number"))) (mSeq (mRet (mAndV (mCmp (opCmpX .Eq) (mBlt bLen (mConsR (mVar 0) mNilR)) (mC (.int 3))) (mAndV (mCallF run_is_bounded [] 1 (mCons (mV (mBin (opIx tabs) (mVar 0) (mC (.int 1)))) mNil)) (mAndV (mCallF run_is_bounded [] 1 (mCons (mV (mBin (opIx tabs) (mVar 0) (mC (.int 2)))) mNil)) (mCmp (opCmp .LtE) (mBin (opIx tabs) (mVar 0) (mC (.int 1))) (mBin (opIx tabs) (mVar 0) (mC (.int 2))))))))
      mPass) mPass)
    (mSeq (mIfS (mCmpT (opCmpX .NotEq) (mBin (opIx tabs) (mVar 0) (mC (.int 0))) (mC (.str "word"))) (mSeq (mRet (mCmp (opCmp .In) (mVar 0) (mTup (mCons (mV (mC (.tup [(.str "name")]))) (mCons (mV (mC (.tup [(.str "label")]))) (mCons (mV (mC (.tup [(.str "text")]))) (mCons (mV (mC (.tup [(.str "selector")]))) mNil)))))))
      mPass) mPass)
    (mSeq (mIfS (mOrT (mCmpT (opCmpX .NotEq) (mBlt bLen (mConsR (mVar 0) mNilR)) (mC (.int 2))) (mOrT (mNotT (mTru (mBlt bIsi (mConsR (mBin (opIx tabs) (mVar 0) (mC (.int 1))) (mConsR (mC (.ty "tuple")) mNilR))))) (mNotT (mChainT (opCmp .LtE) (opCmp .LtE) (mC (.int 1)) (mBlt bLen (mConsR (mBin (opIx tabs) (mVar 0) (mC (.int 1))) mNilR)) (mC (.int 16)))))) (mSeq (mRet (mC (.bl false)))
      mPass) mPass)
    (mSeq (mRet (mAndV (mBlt bAll (mConsR (mLc (mIter (mBin (opIx tabs) (mVar 0) (mC (.int 1)))) (.nm 1) mYes (mV (mCallF run_is_user_name [] 1 (mCons (mV (mVar 1)) mNil))) [1]) mNilR)) (mCmp (opCmpX .Eq) (mLenSet (mBin (opIx tabs) (mVar 0) (mC (.int 1)))) (mBlt bLen (mConsR (mBin (opIx tabs) (mVar 0) (mC (.int 1))) mNilR)))))
    mPass)))))
def run_is_sort : Run := fnRun N_is_sort.length m_is_sort
/- is_sort -/
theorem ok_is_sort (T : Txt K mg w) (F : FnP K "is_sort" s_is_sort [] fd) : FnG P w K mg base (L2N.CX P w) 3 (He.ga K "is_sort") fd ps_is_sort (spI K ps_is_sort.length run_is_sort) := by
  obtain ⟨fd_is_bounded, F_is_bounded⟩ := T.d_is_bounded
  have G_is_bounded := (ok_is_bounded (P := P) (w := w) (base := base) T F_is_bounded)
  have k_is_bounded := F_is_bounded.kp
  have b_is_bounded := bi_is_bounded F_is_bounded
  obtain ⟨fd_is_user_name, F_is_user_name⟩ := T.d_is_user_name
  have G_is_user_name := (ok_is_user_name (P := P) (w := w) (base := base) T F_is_user_name)
  have G_is_user_name := FnG.mono (k := 2) G_is_user_name (by decide)
  have k_is_user_name := F_is_user_name.kp
  have b_is_user_name := bi_is_user_name F_is_user_name
  obtain ⟨t_MOST_WORDS, h_MOST_WORDS⟩ := T.c_MOST_WORDS
  refine okI F sc_is_sort fun cdv A outer s H E hr hG tk hp => ?_
  have hu := hu_of hr
  have hu1 := hu1_of hr
  have hu64 := hu64_of hr
  have hT := hTabs T
  have hF := hFld T
  exact (is_cons (is_if (PW.pt (iv_orT (iv_notT (iv_tru (wb cb_isi T.n_isinstance (by decide +kernel) (ir_cons (wv 0) (ir_cons (wty (by decide +kernel) T.n_tuple) ir_nil (by rfl)) (by rfl))) (by intro _; rfl))) (iv_orT (iv_cmpXT (op := .Eq) hu (wv 0) (iv_tup ia_nil) (by rfl)) (iv_or1 (iv_notT (iv_tru (wb cb_isi T.n_isinstance (by decide +kernel) (ir_cons (iv_ix hT hu (wv 0) iv_int (fun _ _ => rfl)) (ir_cons (wty (by decide +kernel) T.n_str) ir_nil (by rfl)) (by rfl))) (by intro _; rfl))))))) (is_cons (is_ret iv_bl)
      is_nil) is_nil)
    (is_cons (is_if (iv_cmpXT (op := .Eq) hu (iv_ix hT hu (wv 0) iv_int (fun _ _ => rfl)) iv_str (by rfl)) (is_cons (is_ret (iv_andV (iv_cmpX (op := .Eq) hu (wb cb_len T.n_len (by decide +kernel) (ir_cons (wv 0) ir_nil (by rfl))) iv_int (by rfl)) (iv_andV (iv_call (fact_of G_is_bounded b_is_bounded rfl) hr hG tk rfl T.g_is_bounded k_is_bounded (ia_cons (iv_v (iv_ix hT hu (wv 0) iv_int (fun _ _ => rfl))) ia_nil (by rfl)) (by decide) rfl rfl) (iv_andV (iv_call (fact_of G_is_bounded b_is_bounded rfl) hr hG tk rfl T.g_is_bounded k_is_bounded (ia_cons (iv_v (iv_ix hT hu (wv 0) iv_int (fun _ _ => rfl))) ia_nil (by rfl)) (by decide) rfl rfl) (iv_one (iv_cmp (op := .LtE) hu (iv_ix hT hu (wv 0) iv_int (fun _ _ => rfl)) (iv_ix hT hu (wv 0) iv_int (fun _ _ => rfl)) (by rfl)))))))
      is_nil) is_nil)
    (is_cons (is_if (iv_cmpXT (op := .NotEq) hu (iv_ix hT hu (wv 0) iv_int (fun _ _ => rfl)) iv_str (by rfl)) (is_cons (is_ret (iv_cmp (op := .In) hu (wv 0) (iv_tup (ia_cons (iv_v (wgT (exT T.ex).t_NAME T.g_NAME)) (ia_cons (iv_v (wgT (exT T.ex).t_LABEL T.g_LABEL)) (ia_cons (iv_v (wgT (exT T.ex).t_TEXT T.g_TEXT)) (ia_cons (iv_v (wgT (exT T.ex).t_SELECTOR T.g_SELECTOR)) ia_nil (by rfl)) (by rfl)) (by rfl)) (by rfl))) (by rfl)))
      is_nil) is_nil)
    (is_cons (is_if (PW.pt (iv_orT (iv_cmpXT (op := .NotEq) hu (wb cb_len T.n_len (by decide +kernel) (ir_cons (wv 0) ir_nil (by rfl))) iv_int (by rfl)) (iv_orT (iv_notT (iv_tru (wb cb_isi T.n_isinstance (by decide +kernel) (ir_cons (iv_ix hT hu (wv 0) iv_int (fun _ _ => rfl)) (ir_cons (wty (by decide +kernel) T.n_tuple) ir_nil (by rfl)) (by rfl))) (by intro _; rfl))) (iv_or1 (iv_notT (iv_chainT hu iv_int (wb cb_len T.n_len (by decide +kernel) (ir_cons (iv_ix hT hu (wv 0) iv_int (fun _ _ => rfl)) ir_nil (by rfl))) (wgI h_MOST_WORDS) (by rfl))))))) (is_cons (is_ret iv_bl)
      is_nil) is_nil)
    (is_cons (is_ret (iv_andV (wb (cb_all rfl) T.n_all (by decide +kernel) (ir_cons (iv_lc (own := [("word", 1)]) rfl sc_is_sort.nd (ii_iter (iv_ix hT hu (wv 0) iv_int (fun _ _ => rfl))) (blkOk_by (own := [("word", 1)]) (by kernel_rfl)) (fun _ _ _ _ _ => (gnm 1 sc_is_sort.nd)) (fun _ _ _ _ _ => its_nil) (fun _ _ _ _ _ => (iv_v (iv_call (fact_of G_is_user_name b_is_user_name rfl) hr hG takesN0 rfl T.g_is_user_name k_is_user_name (ia_cons (iv_v (wv 1)) ia_nil (by rfl)) (by decide) rfl rfl))) (fun _ => rfl)) ir_nil (by rfl))) (iv_one (iv_cmpX (op := .Eq) hu (iv_lenSet rfl T.n_len T.n_set (iv_ix hT hu (wv 0) iv_int (fun _ _ => rfl))) (wb cb_len T.n_len (by decide +kernel) (ir_cons (iv_ix hT hu (wv 0) iv_int (fun _ _ => rfl)) ir_nil (by rfl))) (by rfl)))))
    is_nil)))))
def m_is_text : DSt :=
    (mSeq (mRet (mAndV (mBlt bIsi (mConsR (mVar 0) (mConsR (mC (.ty "str")) mNilR))) (mAndV (mCmp (opCmp .LtE) (mBlt bLen (mConsR (mVar 0) mNilR)) (mC (.int 400))) (mBlt bAll (mConsR (mLc (mIter (mVar 0)) (.nm 1) mYes (mV (mChain (opCmp .LtE) (opCmp .LtE) (mC (.str " ")) (mVar 1) (mC (.str "~")))) [1]) mNilR)))))
    mPass)
def run_is_text : Run := fnRun N_is_text.length m_is_text
/- is_text -/
theorem ok_is_text (T : Txt K mg w) (F : FnP K "is_text" s_is_text [] fd) : FnG P w K mg base (L2N.CX P w) 1 (He.ga K "is_text") fd ps_is_text (spI K ps_is_text.length run_is_text) := by
  obtain ⟨t_MOST_SIGNS_fields, h_MOST_SIGNS_fields⟩ := T.c_MOST_SIGNS_fields
  refine okI F sc_is_text fun cdv A outer s H E hr hG tk hp => ?_
  have hu := hu_of hr
  have hu1 := hu1_of hr
  have hu64 := hu64_of hr
  have hT := hTabs T
  have hF := hFld T
  exact (is_cons (is_ret (iv_andV (wb cb_isi T.n_isinstance (by decide +kernel) (ir_cons (wv 0) (ir_cons (wty (by decide +kernel) T.n_str) ir_nil (by rfl)) (by rfl))) (iv_andV (iv_cmp (op := .LtE) hu (wb cb_len T.n_len (by decide +kernel) (ir_cons (wv 0) ir_nil (by rfl))) (wgI h_MOST_SIGNS_fields) (by rfl)) (iv_one (wb (cb_all rfl) T.n_all (by decide +kernel) (ir_cons (iv_lc (own := [("sign", 1)]) rfl sc_is_text.nd (ii_iter (wv 0)) (blkOk_by (own := [("sign", 1)]) (by kernel_rfl)) (fun _ _ _ _ _ => (gnm 1 sc_is_text.nd)) (fun _ _ _ _ _ => its_nil) (fun _ _ _ _ _ => (iv_v (iv_chain hu iv_str (wv 1) iv_str (by rfl)))) (fun _ => rfl)) ir_nil (by rfl)))))))
    is_nil)
def m_fits : DSt :=
    (mSeq (mSet 2 (mV (mBin (opIx tabs) (mVar 0) (mC (.int 0)))))
    (mSeq (mIfS (mCmpT (opCmpX .Eq) (mVar 2) (mC (.str "number"))) (mSeq (mRet (mAndV (mCallF run_is_integer [] 1 (mCons (mV (mVar 1)) mNil)) (mChain (opCmp .LtE) (opCmp .LtE) (mBin (opIx tabs) (mVar 0) (mC (.int 1))) (mVar 1) (mBin (opIx tabs) (mVar 0) (mC (.int 2))))))
      mPass) mPass)
    (mSeq (mIfS (mCmpT (opCmpX .Eq) (mVar 2) (mC (.str "word"))) (mSeq (mRet (mAndV (mBlt bIsi (mConsR (mVar 1) (mConsR (mC (.ty "str")) mNilR))) (mCmp (opCmp .In) (mVar 1) (mBin (opIx tabs) (mVar 0) (mC (.int 1))))))
      mPass) mPass)
    (mSeq (mIfS (mCmpT (opCmpX .Eq) (mVar 2) (mC (.str "name"))) (mSeq (mRet (mOrV (mCallF run_is_name [] 1 (mCons (mV (mVar 1)) mNil)) (mAndV (mBlt bIsi (mConsR (mVar 1) (mConsR (mC (.ty "str")) mNilR))) (mCmp (opCmpX .Eq) (mVar 1) (mC (.str ""))))))
      mPass) mPass)
    (mSeq (mRet (mCallV (fun (g : Str) => if g = "is_label_value" then some (run_is_label_value, []) else (fun (g : Str) => if g = "is_text" then some (run_is_text, []) else (fun (g : Str) => if g = "is_selector" then some (run_is_selector, []) else (fun (_ : Str) => none) g) g) g) (mBin (opIx tabs) (mDisp (((mC (.str "label")), (mV (mC (.glo "is_label_value")))) :: (((mC (.str "text")), (mV (mC (.glo "is_text")))) :: (((mC (.str "selector")), (mV (mC (.glo "is_selector")))) :: [])))) (mVar 2)) 1 (mCons (mV (mVar 1)) mNil)))
    mPass)))))
def run_fits : Run := fnRun N_fits.length m_fits
/- fits -/
theorem ok_fits (T : Txt K mg w) (F : FnP K "fits" s_fits [] fd) : FnG P w K mg base (L2N.CX P w) 15 (He.ga K "fits") fd ps_fits (spI K ps_fits.length run_fits) := by
  obtain ⟨fd_is_integer, F_is_integer⟩ := T.d_is_integer
  have G_is_integer := (ok_is_integer (P := P) (w := w) (base := base) T F_is_integer)
  have G_is_integer := FnG.mono (k := 14) G_is_integer (by decide)
  have k_is_integer := F_is_integer.kp
  have b_is_integer := bi_is_integer F_is_integer
  obtain ⟨fd_is_label_value, F_is_label_value⟩ := T.d_is_label_value
  have G_is_label_value := (ok_is_label_value (P := P) (w := w) (base := base) T F_is_label_value)
  have G_is_label_value := FnG.mono (k := 14) G_is_label_value (by decide)
  have k_is_label_value := F_is_label_value.kp
  have b_is_label_value := bi_is_label_value F_is_label_value
  obtain ⟨fd_is_name, F_is_name⟩ := T.d_is_name
  have G_is_name := (ok_is_name (P := P) (w := w) (base := base) T F_is_name)
  have k_is_name := F_is_name.kp
  have b_is_name := bi_is_name F_is_name
  obtain ⟨fd_is_selector, F_is_selector⟩ := T.d_is_selector
  have G_is_selector := (ok_is_selector (P := P) (w := w) (base := base) T F_is_selector)
  have G_is_selector := FnG.mono (k := 14) G_is_selector (by decide)
  have k_is_selector := F_is_selector.kp
  have b_is_selector := bi_is_selector F_is_selector
  obtain ⟨fd_is_text, F_is_text⟩ := T.d_is_text
  have G_is_text := (ok_is_text (P := P) (w := w) (base := base) T F_is_text)
  have G_is_text := FnG.mono (k := 14) G_is_text (by decide)
  have k_is_text := F_is_text.kp
  have b_is_text := bi_is_text F_is_text
  refine okI F sc_fits fun cdv A outer s H E hr hG tk hp => ?_
  have hu := hu_of hr
  have hu1 := hu1_of hr
  have hu64 := hu64_of hr
  have hT := hTabs T
  have hF := hFld T
  exact (is_cons (wset 2 sc_fits.nd (iv_v (iv_ix hT hu (wv 0) iv_int (fun _ _ => rfl))))
    (is_cons (is_if (iv_cmpXT (op := .Eq) hu (wv 2) iv_str (by rfl)) (is_cons (is_ret (iv_andV (iv_call (fact_of G_is_integer b_is_integer rfl) hr hG tk rfl T.g_is_integer k_is_integer (ia_cons (iv_v (wv 1)) ia_nil (by rfl)) (by decide) rfl rfl) (iv_one (iv_chain hu (iv_ix hT hu (wv 0) iv_int (fun _ _ => rfl)) (wv 1) (iv_ix hT hu (wv 0) iv_int (fun _ _ => rfl)) (by rfl)))))
      is_nil) is_nil)
    (is_cons (is_if (iv_cmpXT (op := .Eq) hu (wv 2) iv_str (by rfl)) (is_cons (is_ret (iv_andV (wb cb_isi T.n_isinstance (by decide +kernel) (ir_cons (wv 1) (ir_cons (wty (by decide +kernel) T.n_str) ir_nil (by rfl)) (by rfl))) (iv_one (iv_cmp (op := .In) hu (wv 1) (iv_ix hT hu (wv 0) iv_int (fun _ _ => rfl)) (by rfl)))))
      is_nil) is_nil)
    (is_cons (is_if (iv_cmpXT (op := .Eq) hu (wv 2) iv_str (by rfl)) (is_cons (is_ret (iv_orV (iv_call (fact_of G_is_name b_is_name rfl) hr hG tk rfl T.g_is_name k_is_name (ia_cons (iv_v (wv 1)) ia_nil (by rfl)) (by decide) rfl rfl) (iv_one (iv_andV (wb cb_isi T.n_isinstance (by decide +kernel) (ir_cons (wv 1) (ir_cons (wty (by decide +kernel) T.n_str) ir_nil (by rfl)) (by rfl))) (iv_one (iv_cmpX (op := .Eq) hu (wv 1) iv_str (by rfl)))))))
      is_nil) is_nil)
    (is_cons (is_ret (iv_callV (fns_cons (fact_of G_is_label_value b_is_label_value rfl) k_is_label_value (fns_cons (fact_of G_is_text b_is_text rfl) k_is_text (fns_cons (fact_of G_is_selector b_is_selector rfl) k_is_selector fns_nil))) hr hG tk (iv_ix hT hu (iv_disp (ps := (((mC (.str "label")), (mV (mC (.glo "is_label_value")))) :: (((mC (.str "text")), (mV (mC (.glo "is_text")))) :: (((mC (.str "selector")), (mV (mC (.glo "is_selector")))) :: [])))) (pps_cons iv_str (iv_v (wgO T.g_is_label_value)) (pps_cons iv_str (iv_v (wgO T.g_is_text)) (pps_cons iv_str (iv_v (wgO T.g_is_selector)) pps_nil))) (by rfl) (by rfl) (fun z => by cases z) (by decide)) (wv 2) (fun _ _ => rfl)) (ia_cons (iv_v (wv 1)) ia_nil (by rfl)) (by rfl) (by rfl) (by rfl)))
    is_nil)))))
def m_is_field : DSt :=
    (mSeq (mIfS (mOrT (mNotT (mTru (mBlt bIsi (mConsR (mVar 0) (mConsR (mC (.ty "tuple")) mNilR))))) (mOrT (mCmpT (opCmpX .NotEq) (mBlt bLen (mConsR (mVar 0) mNilR)) (mC (.int 4))) (mOrT (mNotT (mTru (mCallF run_is_user_name [] 1 (mCons (mV (mBin (opIx tabs) (mVar 0) (mC (.int 0)))) mNil)))) (mNotT (mTru (mCallF run_is_sort [] 1 (mCons (mV (mBin (opIx tabs) (mVar 0) (mC (.int 1)))) mNil))))))) (mSeq (mRet (mC (.bl false)))
      mPass) mPass)
    (mSeq (mIfS (mOrT (mNotT (mTru (mBlt bIsi (mConsR (mBin (opIx tabs) (mVar 0) (mC (.int 3))) (mConsR (mC (.ty "bool")) mNilR))))) (mAndT (mTru (mVar 1)) (mTru (mBin (opIx tabs) (mVar 0) (mC (.int 3)))))) (mSeq (mRet (mC (.bl false)))
      mPass) mPass)
    (mSeq (mRet (mIte (mCmpT (opCmp .Is) (mBin (opIx tabs) (mVar 0) (mC (.int 2))) (mC .non)) (mNotV (mVar 1)) (mCallF run_fits [] 2 (mCons (mV (mBin (opIx tabs) (mVar 0) (mC (.int 1)))) (mCons (mV (mBin (opIx tabs) (mVar 0) (mC (.int 2)))) mNil)))))
    mPass)))
def run_is_field : Run := fnRun N_is_field.length m_is_field
/- is_field -/
theorem ok_is_field (T : Txt K mg w) (F : FnP K "is_field" s_is_field [] fd) : FnG P w K mg base (L2N.CX P w) 16 (He.ga K "is_field") fd ps_is_field (spI K ps_is_field.length run_is_field) := by
  obtain ⟨fd_fits, F_fits⟩ := T.d_fits
  have G_fits := (ok_fits (P := P) (w := w) (base := base) T F_fits)
  have k_fits := F_fits.kp
  have b_fits := bi_fits F_fits
  obtain ⟨fd_is_sort, F_is_sort⟩ := T.d_is_sort
  have G_is_sort := (ok_is_sort (P := P) (w := w) (base := base) T F_is_sort)
  have G_is_sort := FnG.mono (k := 15) G_is_sort (by decide)
  have k_is_sort := F_is_sort.kp
  have b_is_sort := bi_is_sort F_is_sort
  obtain ⟨fd_is_user_name, F_is_user_name⟩ := T.d_is_user_name
  have G_is_user_name := (ok_is_user_name (P := P) (w := w) (base := base) T F_is_user_name)
  have G_is_user_name := FnG.mono (k := 15) G_is_user_name (by decide)
  have k_is_user_name := F_is_user_name.kp
  have b_is_user_name := bi_is_user_name F_is_user_name
  refine okI F sc_is_field fun cdv A outer s H E hr hG tk hp => ?_
  have hu := hu_of hr
  have hu1 := hu1_of hr
  have hu64 := hu64_of hr
  have hT := hTabs T
  have hF := hFld T
  exact (is_cons (is_if (PW.pt (iv_orT (iv_notT (iv_tru (wb cb_isi T.n_isinstance (by decide +kernel) (ir_cons (wv 0) (ir_cons (wty (by decide +kernel) T.n_tuple) ir_nil (by rfl)) (by rfl))) (by intro _; rfl))) (iv_orT (iv_cmpXT (op := .NotEq) hu (wb cb_len T.n_len (by decide +kernel) (ir_cons (wv 0) ir_nil (by rfl))) iv_int (by rfl)) (iv_orT (iv_notT (iv_tru (iv_call (fact_of G_is_user_name b_is_user_name rfl) hr hG tk rfl T.g_is_user_name k_is_user_name (ia_cons (iv_v (iv_ix hT hu (wv 0) iv_int (fun _ _ => rfl))) ia_nil (by rfl)) (by decide) rfl rfl) (by intro _; rfl))) (iv_or1 (iv_notT (iv_tru (iv_call (fact_of G_is_sort b_is_sort rfl) hr hG tk rfl T.g_is_sort k_is_sort (ia_cons (iv_v (iv_ix hT hu (wv 0) iv_int (fun _ _ => rfl))) ia_nil (by rfl)) (by decide) rfl rfl) (by intro _; rfl)))))))) (is_cons (is_ret iv_bl)
      is_nil) is_nil)
    (is_cons (is_if (PW.pt (iv_orT (iv_notT (iv_tru (wb cb_isi T.n_isinstance (by decide +kernel) (ir_cons (iv_ix hT hu (wv 0) iv_int (fun _ _ => rfl)) (ir_cons (wty (by decide +kernel) T.n_bool) ir_nil (by rfl)) (by rfl))) (by intro _; rfl))) (iv_or1 (PW.pt (iv_andT (iv_tru (wv 1) (by intro _; rfl)) (iv_and1 (iv_tru (iv_ix hT hu (wv 0) iv_int (fun _ _ => rfl)) (by intro _; rfl)))))))) (is_cons (is_ret iv_bl)
      is_nil) is_nil)
    (is_cons (is_ret (iv_ite (iv_cmpT (op := .Is) hu (iv_ix hT hu (wv 0) iv_int (fun _ _ => rfl)) iv_non (by rfl)) (iv_notV (wv 1)) (iv_call (fact_of G_fits b_fits rfl) hr hG tk rfl T.g_fits k_fits (ia_cons (iv_v (iv_ix hT hu (wv 0) iv_int (fun _ _ => rfl))) (ia_cons (iv_v (iv_ix hT hu (wv 0) iv_int (fun _ _ => rfl))) ia_nil (by rfl)) (by rfl)) (by decide) rfl rfl)))
    is_nil)))
def m_check_rows : DSt :=
    (mSeq (mIfS (mOrT (mNotT (mTru (mBlt bIsi (mConsR (mVar 0) (mConsR (mC (.ty "list")) mNilR))))) (mCmpT (opCmp .Gt) (mBlt bLen (mConsR (mVar 0) mNilR)) (mC (.int 16)))) (mSeq (mRaise "BadField" 1 rs_BadField (mCons (mV (mC .non)) mNil))
      mPass) mPass)
    (mSeq (mFor (mEnum (mConsR (mVar 0) mNilR)) (.tp ((.nm 2) :: ((.nm 3) :: []))) (mSeq (mIfS (mOrT (mNotT (mTru (mCallF run_is_field [] 2 (mCons (mV (mVar 3)) (mCons (mV (mVar 1)) mNil))))) (mCmpT (opCmp .In) (mBin (opIx tabs) (mVar 3) (mC (.int 0))) (mLc (mIter (mSl (mVar 0) mNoPart (mPart (mVar 2)))) (.nm 4) mYes (mV (mBin (opIx tabs) (mVar 4) (mC (.int 0)))) [4]))) (mSeq (mRaise "BadField" 1 rs_BadField (mCons (mV (mVar 2)) mNil))
        mPass) mPass)
      mPass))
    mPass))
def run_check_rows : Run := fnRun N_check_rows.length m_check_rows
/- check_rows -/
theorem ok_check_rows (T : Txt K mg w) (F : FnP K "check_rows" s_check_rows [] fd) : FnG P w K mg base (L2N.CX P w) 17 (He.ga K "check_rows") fd ps_check_rows (spI K ps_check_rows.length run_check_rows) := by
  obtain ⟨fd_is_field, F_is_field⟩ := T.d_is_field
  have G_is_field := (ok_is_field (P := P) (w := w) (base := base) T F_is_field)
  have k_is_field := F_is_field.kp
  have b_is_field := bi_is_field F_is_field
  obtain ⟨t_MOST_FIELDS, h_MOST_FIELDS⟩ := T.c_MOST_FIELDS
  refine okI F sc_check_rows fun cdv A outer s H E hr hG tk hp => ?_
  have hu := hu_of hr
  have hu1 := hu1_of hr
  have hu64 := hu64_of hr
  have hT := hTabs T
  have hF := hFld T
  have hr2 := hr.mono (j := 3) (by first | decide | omega)
  exact (is_cons (is_if (PW.pt (iv_orT (iv_notT (iv_tru (wb cb_isi T.n_isinstance (by decide +kernel) (ir_cons (wv 0) (ir_cons (wty (by decide +kernel) T.n_list) ir_nil (by rfl)) (by rfl))) (by intro _; rfl))) (iv_or1 (iv_cmpT (op := .Gt) hu (wb cb_len T.n_len (by decide +kernel) (ir_cons (wv 0) ir_nil (by rfl))) (wgI h_MOST_FIELDS) (by rfl))))) (is_cons (is_raise rfl tk (RO_BadField T hr2 rfl) (ia_cons (iv_v iv_non) ia_nil (by rfl)) rfl rfl)
      is_nil) is_nil)
    (is_cons (is_for hp rfl (ii_enum (pi_enum (by rfl) T.n_enumerate (ir_cons (wv 0) ir_nil (by rfl)))) (gn_tup rfl (gn_cons (gnm 2 sc_check_rows.nd) (gn_cons (gnm 3 sc_check_rows.nd) gn_nil (by rfl)) (by rfl)) rfl (by rfl) (by rfl)) (is_cons (is_if (PW.pt (iv_orT (iv_notT (iv_tru (iv_call (fact_of G_is_field b_is_field rfl) hr hG tk rfl T.g_is_field k_is_field (ia_cons (iv_v (wv 3)) (ia_cons (iv_v (wv 1)) ia_nil (by rfl)) (by rfl)) (by decide) rfl rfl) (by intro _; rfl))) (iv_or1 (iv_cmpT (op := .In) hu (iv_ix hT hu (wv 3) iv_int (fun _ _ => rfl)) (iv_lc (own := [("one", 4)]) rfl sc_check_rows.nd (ii_iter (iv_sl (wv 0) io_none (io_some (wv 2)))) (blkOk_by (own := [("one", 4)]) (by kernel_rfl)) (fun _ _ _ _ _ => (gnm 4 sc_check_rows.nd)) (fun _ _ _ _ _ => its_nil) (fun _ _ _ _ _ => (iv_v (iv_ix hT hu (wv 4) iv_int (fun _ _ => rfl)))) (fun _ => rfl)) (by rfl))))) (is_cons (is_raise rfl tk (RO_BadField T hr2 rfl) (ia_cons (iv_v (wv 2)) ia_nil (by rfl)) rfl rfl)
        is_nil) is_nil)
      is_nil) (fun _ => rfl))
    is_nil))
def m_by_name : DSt :=
    (mSeq (mRet (mIte (mTru (mBlt bIsi (mConsR (mVar 0) (mConsR (mC (.ty "str")) mNilR)))) (mTup (mCons (mV (mC (.int 1))) (mCons (mV (mVar 0)) mNil))) (mTup (mCons (mV (mC (.int 0))) (mCons (mV (mBlt bRepr (mConsR (mVar 0) mNilR))) mNil)))))
    mPass)
def run_by_name : Run := fnRun N_by_name.length m_by_name
/- by_name -/
theorem ok_by_name (T : Txt K mg w) (F : FnP K "by_name" s_by_name [] fd) : FnG P w K mg base (L2N.CX P w) 1 (He.ga K "by_name") fd ps_by_name (spI K ps_by_name.length run_by_name) := by
  refine okI F sc_by_name fun cdv A outer s H E hr hG tk hp => ?_
  have hu := hu_of hr
  have hu1 := hu1_of hr
  have hu64 := hu64_of hr
  have hT := hTabs T
  have hF := hFld T
  exact (is_cons (is_ret (iv_ite (iv_tru (wb cb_isi T.n_isinstance (by decide +kernel) (ir_cons (wv 0) (ir_cons (wty (by decide +kernel) T.n_str) ir_nil (by rfl)) (by rfl))) (by intro _; rfl)) (iv_tup (ia_cons (iv_v iv_int) (ia_cons (iv_v (wv 0)) ia_nil (by rfl)) (by rfl))) (iv_tup (ia_cons (iv_v iv_int) (ia_cons (iv_v (wb (cb_repr hG hu64) T.n_repr (by decide +kernel) (ir_cons (wv 0) ir_nil (by rfl)))) ia_nil (by rfl)) (by rfl)))))
    is_nil)
def m_check_given : DSt :=
    (mSeq (mFor (mIter (mSortK run_by_name [] (mVar 2))) (.nm 3) (mSeq (mIfS (mOrT (mCmpT (opCmp .NotIn) (mVar 3) (mVar 0)) (mOrT (mCmpT (opCmp .NotIn) (mVar 3) (mVar 1)) (mNotT (mTru (mCallF run_fits [] 2 (mCons (mV (mBin (opIx tabs) (mBin (opIx tabs) (mVar 0) (mVar 3)) (mC (.int 1)))) (mCons (mV (mBin (opIx tabs) (mVar 1) (mVar 3))) mNil))))))) (mSeq (mRaise "BadField" 1 rs_BadField (mCons (mV (mVar 3)) mNil))
        mPass) mPass)
      mPass))
    mPass)
def run_check_given : Run := fnRun N_check_given.length m_check_given
/- check_given -/
theorem ok_check_given (T : Txt K mg w) (F : FnP K "check_given" s_check_given [] fd) : FnG P w K mg base (L2N.CX P w) 16 (He.ga K "check_given") fd ps_check_given (spI K ps_check_given.length run_check_given) := by
  obtain ⟨fd_by_name, F_by_name⟩ := T.d_by_name
  have G_by_name := (ok_by_name (P := P) (w := w) (base := base) T F_by_name)
  have G_by_name := FnG.mono (k := 15) G_by_name (by decide)
  have GK_by_name := FnG.mono (k := 13) (ok_by_name (P := P) (w := w) (base := base) T F_by_name) (by decide)
  have k_by_name := F_by_name.kp
  have b_by_name := bi_by_name F_by_name
  obtain ⟨fd_fits, F_fits⟩ := T.d_fits
  have G_fits := (ok_fits (P := P) (w := w) (base := base) T F_fits)
  have k_fits := F_fits.kp
  have b_fits := bi_fits F_fits
  refine okI F sc_check_given fun cdv A outer s H E hr hG tk hp => ?_
  have hu := hu_of hr
  have hu1 := hu1_of hr
  have hu64 := hu64_of hr
  have hT := hTabs T
  have hF := hFld T
  have hr2 := hr.mono (j := 3) (by first | decide | omega)
  exact (is_cons (is_for hp rfl (ii_iter (iv_sortK rfl (fact_of GK_by_name b_by_name rfl) hr hG T.n_sorted T.g_by_name (wv 2))) (gnm 3 sc_check_given.nd) (is_cons (is_if (PW.pt (iv_orT (iv_cmpT (op := .NotIn) hu (wv 3) (wv 0) (by rfl)) (iv_orT (iv_cmpT (op := .NotIn) hu (wv 3) (wv 1) (by rfl)) (iv_or1 (iv_notT (iv_tru (iv_call (fact_of G_fits b_fits rfl) hr hG tk rfl T.g_fits k_fits (ia_cons (iv_v (iv_ix hT hu (iv_ix hT hu (wv 0) (wv 3) (fun _ _ => rfl)) iv_int (fun _ _ => rfl))) (ia_cons (iv_v (iv_ix hT hu (wv 1) (wv 3) (fun _ _ => rfl))) ia_nil (by rfl)) (by rfl)) (by decide) rfl rfl) (by intro _; rfl))))))) (is_cons (is_raise rfl tk (RO_BadField T hr2 rfl) (ia_cons (iv_v (wv 3)) ia_nil (by rfl)) rfl rfl)
        is_nil) is_nil)
      is_nil) (fun _ => rfl))
    is_nil)
def m_some_value : DSt :=
    (mSeq (mIfS (mCmpT (opCmpX .Eq) (mBin (opIx tabs) (mVar 0) (mC (.int 0))) (mC (.str "number"))) (mSeq (mRet (mBin (opIx tabs) (mVar 0) (mC (.int 1))))
      mPass) mPass)
    (mSeq (mRet (mIte (mCmpT (opCmpX .Eq) (mBin (opIx tabs) (mVar 0) (mC (.int 0))) (mC (.str "word"))) (mBin (opIx tabs) (mBin (opIx tabs) (mVar 0) (mC (.int 1))) (mC (.int 0))) (mC (.str ""))))
    mPass))
def run_some_value : Run := fnRun N_some_value.length m_some_value
/- some_value -/
theorem ok_some_value (T : Txt K mg w) (F : FnP K "some_value" s_some_value [] fd) : FnG P w K mg base (L2N.CX P w) 1 (He.ga K "some_value") fd ps_some_value (spI K ps_some_value.length run_some_value) := by
  refine okI F sc_some_value fun cdv A outer s H E hr hG tk hp => ?_
  have hu := hu_of hr
  have hu1 := hu1_of hr
  have hu64 := hu64_of hr
  have hT := hTabs T
  have hF := hFld T
  exact (is_cons (is_if (iv_cmpXT (op := .Eq) hu (iv_ix hT hu (wv 0) iv_int (fun _ _ => rfl)) iv_str (by rfl)) (is_cons (is_ret (iv_ix hT hu (wv 0) iv_int (fun _ _ => rfl)))
      is_nil) is_nil)
    (is_cons (is_ret (iv_ite (iv_cmpXT (op := .Eq) hu (iv_ix hT hu (wv 0) iv_int (fun _ _ => rfl)) iv_str (by rfl)) (iv_ix hT hu (iv_ix hT hu (wv 0) iv_int (fun _ _ => rfl)) iv_int (fun _ _ => rfl)) iv_str))
    is_nil))
def m_Way___init__ : DSt :=
    (mSeq (mFldS fld "of" (mV (mVar 0)) (mV (mVar 1)))
    (mSeq (mFldS fld "form" (mV (mVar 0)) (mV (mVar 2)))
    (mSeq (mFldS fld "factor" (mV (mVar 0)) (mV (mVar 3)))
    (mSeq (mFldS fld "more" (mV (mVar 0)) (mV (mVar 4)))
    (mSeq (mFldS fld "words" (mV (mVar 0)) (mV (mVar 5)))
    mPass)))))
def run_Way___init__ : Run := fnRun N_Way___init__.length m_Way___init__
/- Way___init__ -/
theorem ok_Way___init__ (T : Txt K mg w) (F : FunD K "__init__" "Way.__init__" (defArgs s_Way___init__) (defBody s_Way___init__) (defScope s_Way___init__) [.int 1, .int 0, .non] [] (He.fAd K ("Way", some "__init__")) fd) : FnG P w K mg base (L2N.CX P w) 1 (He.fAd K ("Way", some "__init__")) fd ps_Way___init__ (spI K ps_Way___init__.length run_Way___init__) := by
  refine okI F sc_Way___init__ fun cdv A outer s H E hr hG tk hp => ?_
  have hu := hu_of hr
  have hu1 := hu1_of hr
  have hu64 := hu64_of hr
  have hT := hTabs T
  have hF := hFld T
  exact (is_cons (is_fld hF (iv_v (wv 0)) (iv_v (wv 1)) (by rfl))
    (is_cons (is_fld hF (iv_v (wv 0)) (iv_v (wv 2)) (by rfl))
    (is_cons (is_fld hF (iv_v (wv 0)) (iv_v (wv 3)) (by rfl))
    (is_cons (is_fld hF (iv_v (wv 0)) (iv_v (wv 4)) (by rfl))
    (is_cons (is_fld hF (iv_v (wv 0)) (iv_v (wv 5)) (by rfl))
    is_nil)))))
def m_ways_of : DSt :=
    (mSeq (mRet (mLockE (mV (mVar 0)) (mDc (mIter (mVar 0)) (.nm 1) mYes (mV (mVar 1)) (mV (mMake "Way" run_Way___init__ [(.int 1), (.int 0), .non] 2 (mCons (mV (mVar 1)) (mCons (mV (mBin (opIx tabs) (mVar 0) (mVar 1))) mNil)))) [1])))
    mPass)
def run_ways_of : Run := fnRun N_ways_of.length m_ways_of
/- ways_of -/
theorem ok_ways_of (T : Txt K mg w) (F : FnP K "ways_of" s_ways_of [] fd) : FnG P w K mg base (L2N.CX P w) 3 (He.ga K "ways_of") fd ps_ways_of (spI K ps_ways_of.length run_ways_of) := by
  obtain ⟨fd_Way___init__, F_Way___init__⟩ := T.d_Way___init__
  have G_Way___init__ := (ok_Way___init__ (P := P) (w := w) (base := base) T F_Way___init__)
  have k_Way___init__ := F_Way___init__.kp
  obtain ⟨ds_Way___init___3, v_Way___init___3, b_Way___init___3⟩ := bj_Way___init___3 F_Way___init__
  obtain ⟨ds0_Way___init__, hd0_Way___init__, b_Way___init__⟩ := bj_Way___init___0 F_Way___init__
  cases hd0_Way___init__
  have vr_Way___init___3 : ∀ ι H, VRs K ι H [(.int 1), (.int 0), .non] [(.int 1), (.int 0), .non] := fun ι H => .cons (.int _) (.cons (.int _) (.cons .non (.nil)))
  refine okI F sc_ways_of fun cdv A outer s H E hr hG tk hp => ?_
  have hu := hu_of hr
  have hu1 := hu1_of hr
  have hu64 := hu64_of hr
  have hT := hTabs T
  have hF := hFld T
  have hr1 := hr
  exact (is_cons (is_ret (ie_lock (md := (mV (mVar 0))) (iv_dc (own := [("name", 1)]) rfl sc_ways_of.nd (ii_iter (wv 0)) (blkOk_by (own := [("name", 1)]) (by kernel_rfl)) (fun _ _ _ _ _ => (gnm 1 sc_ways_of.nd)) (fun _ _ _ _ _ => its_nil) (fun _ _ _ _ _ => (iv_v (wv 1))) (fun _ _ _ _ _ => (iv_v (iv_make rfl T.mk_Way (fact_dflt G_Way___init__ b_Way___init___3 vr_Way___init___3 v_Way___init___3 rfl) hr1 hG takesN0 rfl T.g_Way (ia_cons (iv_v (wv 1)) (ia_cons (iv_v (iv_ix hT hu (wv 0) (wv 1) (fun _ _ => rfl))) ia_nil (by rfl)) (by rfl)) (by decide) rfl rfl))) (fun _ => rfl))))
    is_nil)
def m_free : DSt :=
    (mSeq (mRet (mTup (mCons (mV (mVar 0)) (mCons (mV (mVar 1)) (mCons (mV (mVar 2)) (mCons (mV (mC (.bl false))) mNil))))))
    mPass)
def run_free : Run := fnRun N_free.length m_free
/- free -/
theorem ok_free (T : Txt K mg w) (F : FnP K "free" s_free [] fd) : FnG P w K mg base (L2N.CX P w) 1 (He.ga K "free") fd ps_free (spI K ps_free.length run_free) := by
  refine okI F sc_free fun cdv A outer s H E hr hG tk hp => ?_
  have hu := hu_of hr
  have hu1 := hu1_of hr
  have hu64 := hu64_of hr
  have hT := hTabs T
  have hF := hFld T
  exact (is_cons (is_ret (iv_tup (ia_cons (iv_v (wv 0)) (ia_cons (iv_v (wv 1)) (ia_cons (iv_v (wv 2)) (ia_cons (iv_v iv_bl) ia_nil (by rfl)) (by rfl)) (by rfl)) (by rfl))))
    is_nil)
def m_counts : DSt :=
    (mSeq (mRet (mLc (mIter (mVar 0)) (.nm 1) mYes (mV (mCallF run_free [] 3 (mCons (mV (mVar 1)) (mCons (mV (mC (.tup [(.str "number"), (.int 0), (.int 99)]))) (mCons (mV (mC (.int 0))) mNil))))) [1]))
    mPass)
def run_counts : Run := fnRun N_counts.length m_counts
/- counts -/
theorem ok_counts (T : Txt K mg w) (F : FnP K "counts" s_counts [] fd) : FnG P w K mg base (L2N.CX P w) 2 (He.ga K "counts") fd ps_counts (spI K ps_counts.length run_counts) := by
  obtain ⟨fd_free, F_free⟩ := T.d_free
  have G_free := (ok_free (P := P) (w := w) (base := base) T F_free)
  have k_free := F_free.kp
  have b_free := bi_free F_free
  refine okI F sc_counts fun cdv A outer s H E hr hG tk hp => ?_
  have hu := hu_of hr
  have hu1 := hu1_of hr
  have hu64 := hu64_of hr
  have hT := hTabs T
  have hF := hFld T
  exact (is_cons (is_ret (iv_lc (own := [("name", 1)]) rfl sc_counts.nd (ii_iter (wv 0)) (blkOk_by (own := [("name", 1)]) (by kernel_rfl)) (fun _ _ _ _ _ => (gnm 1 sc_counts.nd)) (fun _ _ _ _ _ => its_nil) (fun _ _ _ _ _ => (iv_v (iv_call (fact_of G_free b_free rfl) hr hG takesN0 rfl T.g_free k_free (ia_cons (iv_v (wv 1)) (ia_cons (iv_v (wgT (exT T.ex).t_COUNT T.g_COUNT)) (ia_cons (iv_v iv_int) ia_nil (by rfl)) (by rfl)) (by rfl)) (by decide) rfl rfl))) (fun _ => rfl)))
    is_nil)
def m_made : DSt :=
    (mSeq (mSet 2 (mV (mLst (mCons (mV (mTup (mCons (mV (mC (.str "cpu"))) (mCons (mV (mC (.tup [(.str "number"), (.int 0), (.int 64)]))) (mCons (mV (mC (.int 0))) (mCons (mV (mVar 0)) mNil)))))) (mCons (mV (mTup (mCons (mV (mC (.str "mem"))) (mCons (mV (mC (.tup [(.str "number"), (.int 0), (.int 64)]))) (mCons (mV (mC (.int 0))) (mCons (mV (mVar 0)) mNil)))))) (mCons (mV (mTup (mCons (mV (mC (.str "prio"))) (mCons (mV (mTup (mCons (mV (mC (.str "number"))) (mCons (mV (mC (.int 0))) (mCons (mV (mC (.int 9))) mNil))))) (mCons (mV (mC (.int 0))) (mCons (mV (mVar 0)) mNil)))))) mNil))))))
    (mSeq (mExpr (mMt "list" gAppend (mV (mVar 2)) (mCons (mV (mTup (mCons (mV (mC (.str "pick"))) (mCons (mV (mC (.tup [(.str "selector")]))) (mCons (mV (mC (.str ""))) (mCons (mV (mVar 0)) mNil)))))) mNil)))
    (mSeq (mRet (mBin opAdd (mVar 2) (mIte (mTru (mVar 1)) (mLst (mCons (mV (mTup (mCons (mV (mC (.str "template"))) (mCons (mV (mC (.tup [(.str "number"), (.int 0), (.int 999999)]))) (mCons (mV (mC (.int 0))) (mCons (mV (mVar 0)) mNil)))))) mNil)) (mLst mNil))))
    mPass)))
def run_made : Run := fnRun N_made.length m_made
/- made -/
theorem ok_made (T : Txt K mg w) (F : FnP K "made" s_made [.bl true] fd) : FnG P w K mg base (L2N.CX P w) 1 (He.ga K "made") fd ps_made (spI K ps_made.length run_made) := by
  refine okI F sc_made fun cdv A outer s H E hr hG tk hp => ?_
  have hu := hu_of hr
  have hu1 := hu1_of hr
  have hu64 := hu64_of hr
  have hT := hTabs T
  have hF := hFld T
  exact (is_cons (wset 2 sc_made.nd (iv_v (iv_lst (ia_cons (iv_v (iv_tup (ia_cons (iv_v iv_str) (ia_cons (iv_v (wgT (exT T.ex).t_AMOUNT T.g_AMOUNT)) (ia_cons (iv_v iv_int) (ia_cons (iv_v (wv 0)) ia_nil (by rfl)) (by rfl)) (by rfl)) (by rfl)))) (ia_cons (iv_v (iv_tup (ia_cons (iv_v iv_str) (ia_cons (iv_v (wgT (exT T.ex).t_AMOUNT T.g_AMOUNT)) (ia_cons (iv_v iv_int) (ia_cons (iv_v (wv 0)) ia_nil (by rfl)) (by rfl)) (by rfl)) (by rfl)))) (ia_cons (iv_v (iv_tup (ia_cons (iv_v iv_str) (ia_cons (iv_v (iv_tup (ia_cons (iv_v iv_str) (ia_cons (iv_v iv_int) (ia_cons (iv_v iv_int) ia_nil (by rfl)) (by rfl)) (by rfl)))) (ia_cons (iv_v iv_int) (ia_cons (iv_v (wv 0)) ia_nil (by rfl)) (by rfl)) (by rfl)) (by rfl)))) ia_nil (by rfl)) (by rfl)) (by rfl)))))
    (is_cons (is_expr (wm PySem.F.plainAttrs_list PySem.F.slot_list_append PySem.F.type_list_append mg_append (iv_v (wv 2)) (ia_cons (iv_v (iv_tup (ia_cons (iv_v iv_str) (ia_cons (iv_v (wgT (exT T.ex).t_SELECTOR T.g_SELECTOR)) (ia_cons (iv_v iv_str) (ia_cons (iv_v (wv 0)) ia_nil (by rfl)) (by rfl)) (by rfl)) (by rfl)))) ia_nil (by rfl))) (by rfl))
    (is_cons (is_ret (iv_op opAdd_ok (wv 2) (iv_ite (iv_tru (wv 1) (by intro _; rfl)) (iv_lst (ia_cons (iv_v (iv_tup (ia_cons (iv_v iv_str) (ia_cons (iv_v (wgT (exT T.ex).t_TEMPLATE T.g_TEMPLATE)) (ia_cons (iv_v iv_int) (ia_cons (iv_v (wv 0)) ia_nil (by rfl)) (by rfl)) (by rfl)) (by rfl)))) ia_nil (by rfl))) (iv_lst ia_nil))))
    is_nil)))
def m_known_makers : DSt :=
    (mSeq (mSet 0 (mV mEmptyD))
    (mSeq (mSet 1 (mV (mBin opAdd (mCallF run_made [(.bl true)] 1 (mCons (mV (mC (.bl true))) mNil)) (mLst (mCons (mV (mTup (mCons (mV (mC (.str "only"))) (mCons (mV (mC (.tup [(.str "name")]))) (mCons (mV (mC (.str ""))) (mCons (mV (mC (.bl true))) mNil)))))) (mCons (mV (mCallF run_free [] 3 (mCons (mV (mC (.str "node"))) (mCons (mV (mC (.tup [(.str "name")]))) (mCons (mV (mC (.str ""))) mNil))))) mNil))))))
    (mSeq (mAsg (mV (mTup (mCons (mV (mVar 1)) (mCons (mV (mLst (mCons (mV (mCallF run_free [] 3 (mCons (mV (mC (.str "phase"))) (mCons (mV (mTup (mCons (mV (mC (.str "word"))) (mCons (mV (mC (.tup [(.str "pending"), (.str "running"), (.str "ready"), (.str "done"), (.str "failed")]))) mNil)))) (mCons (mV (mC (.str "pending"))) mNil))))) (mCons (mV (mCallF run_free [] 3 (mCons (mV (mC (.str "wants"))) (mCons (mV (mC (.tup [(.str "name")]))) (mCons (mV (mC (.str ""))) mNil))))) (mCons (mV (mCallF run_free [] 3 (mCons (mV (mC (.str "why"))) (mCons (mV (mC (.tup [(.str "text")]))) (mCons (mV (mC (.str ""))) mNil))))) mNil))))) mNil)))) (gSubM (mV (mVar 0)) (mV (mC (.str "task")))))
    (mSeq (mSet 2 (mV (mCallF run_free [] 3 (mCons (mV (mC (.str "replicas"))) (mCons (mV (mC (.tup [(.str "number"), (.int 0), (.int 12)]))) (mCons (mV (mC (.int 1))) mNil))))))
    (mSeq (mAsg (mV (mTup (mCons (mV (mBin opAdd (mCallF run_made [(.bl true)] 1 (mCons (mV (mC (.bl true))) mNil)) (mLst (mCons (mV (mVar 2)) mNil)))) (mCons (mV (mCallF run_counts [] 1 (mCons (mV (mLst (mCons (mV (mC (.str "made"))) (mCons (mV (mC (.str "ready"))) (mCons (mV (mC (.str "old"))) mNil))))) mNil))) mNil)))) (gSubM (mV (mVar 0)) (mV (mC (.str "set")))))
    (mSeq (mSet 3 (mV (mLst (mCons (mV (mVar 2)) (mCons (mV (mCallF run_free [] 3 (mCons (mV (mC (.str "surge"))) (mCons (mV (mTup (mCons (mV (mC (.str "number"))) (mCons (mV (mC (.int 0))) (mCons (mV (mC (.int 4))) mNil))))) (mCons (mV (mC (.int 1))) mNil))))) (mCons (mV (mCallF run_free [] 3 (mCons (mV (mC (.str "down"))) (mCons (mV (mTup (mCons (mV (mC (.str "number"))) (mCons (mV (mC (.int 0))) (mCons (mV (mC (.int 4))) mNil))))) (mCons (mV (mC (.int 0))) mNil))))) mNil))))))
    (mSeq (mSet 4 (mV (mCallF run_free [] 3 (mCons (mV (mC (.str "state"))) (mCons (mV (mTup (mCons (mV (mC (.str "word"))) (mCons (mV (mTup (mCons (mV (mC (.str "moving"))) (mCons (mV (mC (.str "still"))) mNil)))) mNil)))) (mCons (mV (mC (.str "moving"))) mNil))))))
    (mSeq (mAsg (mV (mTup (mCons (mV (mBin opAdd (mCallF run_made [(.bl true)] 1 (mCons (mV (mC (.bl false))) mNil)) (mVar 3))) (mCons (mV (mBin opAdd (mCallF run_counts [] 1 (mCons (mV (mLst (mCons (mV (mC (.str "made"))) (mCons (mV (mC (.str "ready"))) mNil)))) mNil)) (mLst (mCons (mV (mVar 4)) mNil)))) mNil)))) (gSubM (mV (mVar 0)) (mV (mC (.str "rollout")))))
    (mSeq (mSet 5 (mV (mLst (mCons (mV (mTup (mCons (mV (mC (.str "wanted"))) (mCons (mV (mTup (mCons (mV (mC (.str "number"))) (mCons (mV (mC (.int 1))) (mCons (mV (mC (.int 8))) mNil))))) (mCons (mV (mC (.int 1))) (mCons (mV (mC (.bl true))) mNil)))))) (mCons (mV (mTup (mCons (mV (mC (.str "wide"))) (mCons (mV (mTup (mCons (mV (mC (.str "number"))) (mCons (mV (mC (.int 1))) (mCons (mV (mC (.int 4))) mNil))))) (mCons (mV (mC (.int 1))) (mCons (mV (mC (.bl true))) mNil)))))) mNil)))))
    (mSeq (mExpr (mMt "list" gAppend (mV (mVar 5)) (mCons (mV (mTup (mCons (mV (mC (.str "tries"))) (mCons (mV (mTup (mCons (mV (mC (.str "number"))) (mCons (mV (mC (.int 0))) (mCons (mV (mC (.int 4))) mNil))))) (mCons (mV (mC (.int 0))) (mCons (mV (mC (.bl true))) mNil)))))) mNil)))
    (mSeq (mSet 4 (mV (mCallF run_free [] 3 (mCons (mV (mC (.str "state"))) (mCons (mV (mTup (mCons (mV (mC (.str "word"))) (mCons (mV (mTup (mCons (mV (mC (.str "on"))) (mCons (mV (mC (.str "done"))) (mCons (mV (mC (.str "failed"))) mNil))))) mNil)))) (mCons (mV (mC (.str "on"))) mNil))))))
    (mSeq (mAsg (mV (mTup (mCons (mV (mBin opAdd (mCallF run_made [] 2 (mCons (mV (mC (.bl true))) (mCons (mV (mC (.bl false))) mNil))) (mVar 5))) (mCons (mV (mBin opAdd (mCallF run_counts [] 1 (mCons (mV (mLst (mCons (mV (mC (.str "done"))) (mCons (mV (mC (.str "failed"))) mNil)))) mNil)) (mLst (mCons (mV (mVar 4)) mNil)))) mNil)))) (gSubM (mV (mVar 0)) (mV (mC (.str "job")))))
    (mSeq (mAsg (mV (mTup (mCons (mV (mCallF run_made [(.bl true)] 1 (mCons (mV (mC (.bl true))) mNil))) (mCons (mV (mCallF run_counts [] 1 (mCons (mV (mLst (mCons (mV (mC (.str "made"))) (mCons (mV (mC (.str "ready"))) mNil)))) mNil))) mNil)))) (gSubM (mV (mVar 0)) (mV (mC (.str "each")))))
    (mSeq (mRet (mVar 0))
    mPass))))))))))))))
def run_known_makers : Run := fnRun N_known_makers.length m_known_makers
/- known_makers -/
theorem ok_known_makers (T : Txt K mg w) (F : FnP K "known_makers" s_known_makers [] fd) : FnG P w K mg base (L2N.CX P w) 3 (He.ga K "known_makers") fd ps_known_makers (spI K ps_known_makers.length run_known_makers) := by
  obtain ⟨fd_counts, F_counts⟩ := T.d_counts
  have G_counts := (ok_counts (P := P) (w := w) (base := base) T F_counts)
  have k_counts := F_counts.kp
  have b_counts := bi_counts F_counts
  obtain ⟨fd_free, F_free⟩ := T.d_free
  have G_free := (ok_free (P := P) (w := w) (base := base) T F_free)
  have G_free := FnG.mono (k := 2) G_free (by decide)
  have k_free := F_free.kp
  have b_free := bi_free F_free
  obtain ⟨fd_made, F_made⟩ := T.d_made
  have G_made := (ok_made (P := P) (w := w) (base := base) T F_made)
  have G_made := FnG.mono (k := 2) G_made (by decide)
  have k_made := F_made.kp
  obtain ⟨ds_made_1, v_made_1, b_made_1⟩ := bj_made_1 F_made
  obtain ⟨ds0_made, hd0_made, b_made⟩ := bj_made_0 F_made
  cases hd0_made
  have vr_made_1 : ∀ ι H, VRs K ι H [(.bl true)] [(.bl true)] := fun ι H => .cons (.bl _) (.nil)
  refine okI F sc_known_makers fun cdv A outer s H E hr hG tk hp => ?_
  have hu := hu_of hr
  have hu1 := hu1_of hr
  have hu64 := hu64_of hr
  have hT := hTabs T
  have hF := hFld T
  exact (is_cons (wset 0 sc_known_makers.nd (iv_v iv_dnew))
    (is_cons (wset 1 sc_known_makers.nd (iv_v (iv_op opAdd_ok (iv_call (fact_dflt G_made b_made_1 vr_made_1 v_made_1 rfl) hr hG tk rfl T.g_made k_made (ia_cons (iv_v iv_bl) ia_nil (by rfl)) (by decide) rfl rfl) (iv_lst (ia_cons (iv_v (iv_tup (ia_cons (iv_v iv_str) (ia_cons (iv_v (wgT (exT T.ex).t_NAME T.g_NAME)) (ia_cons (iv_v iv_str) (ia_cons (iv_v iv_bl) ia_nil (by rfl)) (by rfl)) (by rfl)) (by rfl)))) (ia_cons (iv_v (iv_call (fact_of G_free b_free rfl) hr hG tk rfl T.g_free k_free (ia_cons (iv_v iv_str) (ia_cons (iv_v (wgT (exT T.ex).t_NAME T.g_NAME)) (ia_cons (iv_v iv_str) ia_nil (by rfl)) (by rfl)) (by rfl)) (by decide) rfl rfl)) ia_nil (by rfl)) (by rfl))))))
    (is_cons (wasg (iv_v (iv_tup (ia_cons (iv_v (wv 1)) (ia_cons (iv_v (iv_lst (ia_cons (iv_v (iv_call (fact_of G_free b_free rfl) hr hG tk rfl T.g_free k_free (ia_cons (iv_v iv_str) (ia_cons (iv_v (iv_tup (ia_cons (iv_v iv_str) (ia_cons (iv_v (wgT (exT T.ex).t_PHASES T.g_PHASES)) ia_nil (by rfl)) (by rfl)))) (ia_cons (iv_v iv_str) ia_nil (by rfl)) (by rfl)) (by rfl)) (by decide) rfl rfl)) (ia_cons (iv_v (iv_call (fact_of G_free b_free rfl) hr hG tk rfl T.g_free k_free (ia_cons (iv_v iv_str) (ia_cons (iv_v (wgT (exT T.ex).t_NAME T.g_NAME)) (ia_cons (iv_v iv_str) ia_nil (by rfl)) (by rfl)) (by rfl)) (by decide) rfl rfl)) (ia_cons (iv_v (iv_call (fact_of G_free b_free rfl) hr hG tk rfl T.g_free k_free (ia_cons (iv_v iv_str) (ia_cons (iv_v (wgT (exT T.ex).t_TEXT T.g_TEXT)) (ia_cons (iv_v iv_str) ia_nil (by rfl)) (by rfl)) (by rfl)) (by decide) rfl rfl)) ia_nil (by rfl)) (by rfl)) (by rfl)))) ia_nil (by rfl)) (by rfl)))) (ig_sub hu1 (iv_v (wv 0)) (iv_v iv_str) (by intro _; rfl)) nx_sub)
    (is_cons (wset 2 sc_known_makers.nd (iv_v (iv_call (fact_of G_free b_free rfl) hr hG tk rfl T.g_free k_free (ia_cons (iv_v iv_str) (ia_cons (iv_v (wgT (exT T.ex).t_TWELVE T.g_TWELVE)) (ia_cons (iv_v iv_int) ia_nil (by rfl)) (by rfl)) (by rfl)) (by decide) rfl rfl)))
    (is_cons (wasg (iv_v (iv_tup (ia_cons (iv_v (iv_op opAdd_ok (iv_call (fact_dflt G_made b_made_1 vr_made_1 v_made_1 rfl) hr hG tk rfl T.g_made k_made (ia_cons (iv_v iv_bl) ia_nil (by rfl)) (by decide) rfl rfl) (iv_lst (ia_cons (iv_v (wv 2)) ia_nil (by rfl))))) (ia_cons (iv_v (iv_call (fact_of G_counts b_counts rfl) hr hG tk rfl T.g_counts k_counts (ia_cons (iv_v (iv_lst (ia_cons (iv_v iv_str) (ia_cons (iv_v iv_str) (ia_cons (iv_v iv_str) ia_nil (by rfl)) (by rfl)) (by rfl)))) ia_nil (by rfl)) (by decide) rfl rfl)) ia_nil (by rfl)) (by rfl)))) (ig_sub hu1 (iv_v (wv 0)) (iv_v iv_str) (by intro _; rfl)) nx_sub)
    (is_cons (wset 3 sc_known_makers.nd (iv_v (iv_lst (ia_cons (iv_v (wv 2)) (ia_cons (iv_v (iv_call (fact_of G_free b_free rfl) hr hG tk rfl T.g_free k_free (ia_cons (iv_v iv_str) (ia_cons (iv_v (iv_tup (ia_cons (iv_v iv_str) (ia_cons (iv_v iv_int) (ia_cons (iv_v iv_int) ia_nil (by rfl)) (by rfl)) (by rfl)))) (ia_cons (iv_v iv_int) ia_nil (by rfl)) (by rfl)) (by rfl)) (by decide) rfl rfl)) (ia_cons (iv_v (iv_call (fact_of G_free b_free rfl) hr hG tk rfl T.g_free k_free (ia_cons (iv_v iv_str) (ia_cons (iv_v (iv_tup (ia_cons (iv_v iv_str) (ia_cons (iv_v iv_int) (ia_cons (iv_v iv_int) ia_nil (by rfl)) (by rfl)) (by rfl)))) (ia_cons (iv_v iv_int) ia_nil (by rfl)) (by rfl)) (by rfl)) (by decide) rfl rfl)) ia_nil (by rfl)) (by rfl)) (by rfl)))))
    (is_cons (wset 4 sc_known_makers.nd (iv_v (iv_call (fact_of G_free b_free rfl) hr hG tk rfl T.g_free k_free (ia_cons (iv_v iv_str) (ia_cons (iv_v (iv_tup (ia_cons (iv_v iv_str) (ia_cons (iv_v (iv_tup (ia_cons (iv_v iv_str) (ia_cons (iv_v iv_str) ia_nil (by rfl)) (by rfl)))) ia_nil (by rfl)) (by rfl)))) (ia_cons (iv_v iv_str) ia_nil (by rfl)) (by rfl)) (by rfl)) (by decide) rfl rfl)))
    (is_cons (wasg (iv_v (iv_tup (ia_cons (iv_v (iv_op opAdd_ok (iv_call (fact_dflt G_made b_made_1 vr_made_1 v_made_1 rfl) hr hG tk rfl T.g_made k_made (ia_cons (iv_v iv_bl) ia_nil (by rfl)) (by decide) rfl rfl) (wv 3))) (ia_cons (iv_v (iv_op opAdd_ok (iv_call (fact_of G_counts b_counts rfl) hr hG tk rfl T.g_counts k_counts (ia_cons (iv_v (iv_lst (ia_cons (iv_v iv_str) (ia_cons (iv_v iv_str) ia_nil (by rfl)) (by rfl)))) ia_nil (by rfl)) (by decide) rfl rfl) (iv_lst (ia_cons (iv_v (wv 4)) ia_nil (by rfl))))) ia_nil (by rfl)) (by rfl)))) (ig_sub hu1 (iv_v (wv 0)) (iv_v iv_str) (by intro _; rfl)) nx_sub)
    (is_cons (wset 5 sc_known_makers.nd (iv_v (iv_lst (ia_cons (iv_v (iv_tup (ia_cons (iv_v iv_str) (ia_cons (iv_v (iv_tup (ia_cons (iv_v iv_str) (ia_cons (iv_v iv_int) (ia_cons (iv_v iv_int) ia_nil (by rfl)) (by rfl)) (by rfl)))) (ia_cons (iv_v iv_int) (ia_cons (iv_v iv_bl) ia_nil (by rfl)) (by rfl)) (by rfl)) (by rfl)))) (ia_cons (iv_v (iv_tup (ia_cons (iv_v iv_str) (ia_cons (iv_v (iv_tup (ia_cons (iv_v iv_str) (ia_cons (iv_v iv_int) (ia_cons (iv_v iv_int) ia_nil (by rfl)) (by rfl)) (by rfl)))) (ia_cons (iv_v iv_int) (ia_cons (iv_v iv_bl) ia_nil (by rfl)) (by rfl)) (by rfl)) (by rfl)))) ia_nil (by rfl)) (by rfl)))))
    (is_cons (is_expr (wm PySem.F.plainAttrs_list PySem.F.slot_list_append PySem.F.type_list_append mg_append (iv_v (wv 5)) (ia_cons (iv_v (iv_tup (ia_cons (iv_v iv_str) (ia_cons (iv_v (iv_tup (ia_cons (iv_v iv_str) (ia_cons (iv_v iv_int) (ia_cons (iv_v iv_int) ia_nil (by rfl)) (by rfl)) (by rfl)))) (ia_cons (iv_v iv_int) (ia_cons (iv_v iv_bl) ia_nil (by rfl)) (by rfl)) (by rfl)) (by rfl)))) ia_nil (by rfl))) (by rfl))
    (is_cons (wset 4 sc_known_makers.nd (iv_v (iv_call (fact_of G_free b_free rfl) hr hG tk rfl T.g_free k_free (ia_cons (iv_v iv_str) (ia_cons (iv_v (iv_tup (ia_cons (iv_v iv_str) (ia_cons (iv_v (iv_tup (ia_cons (iv_v iv_str) (ia_cons (iv_v iv_str) (ia_cons (iv_v iv_str) ia_nil (by rfl)) (by rfl)) (by rfl)))) ia_nil (by rfl)) (by rfl)))) (ia_cons (iv_v iv_str) ia_nil (by rfl)) (by rfl)) (by rfl)) (by decide) rfl rfl)))
    (is_cons (wasg (iv_v (iv_tup (ia_cons (iv_v (iv_op opAdd_ok (iv_call (fact_of G_made b_made rfl) hr hG tk rfl T.g_made k_made (ia_cons (iv_v iv_bl) (ia_cons (iv_v iv_bl) ia_nil (by rfl)) (by rfl)) (by decide) rfl rfl) (wv 5))) (ia_cons (iv_v (iv_op opAdd_ok (iv_call (fact_of G_counts b_counts rfl) hr hG tk rfl T.g_counts k_counts (ia_cons (iv_v (iv_lst (ia_cons (iv_v iv_str) (ia_cons (iv_v iv_str) ia_nil (by rfl)) (by rfl)))) ia_nil (by rfl)) (by decide) rfl rfl) (iv_lst (ia_cons (iv_v (wv 4)) ia_nil (by rfl))))) ia_nil (by rfl)) (by rfl)))) (ig_sub hu1 (iv_v (wv 0)) (iv_v iv_str) (by intro _; rfl)) nx_sub)
    (is_cons (wasg (iv_v (iv_tup (ia_cons (iv_v (iv_call (fact_dflt G_made b_made_1 vr_made_1 v_made_1 rfl) hr hG tk rfl T.g_made k_made (ia_cons (iv_v iv_bl) ia_nil (by rfl)) (by decide) rfl rfl)) (ia_cons (iv_v (iv_call (fact_of G_counts b_counts rfl) hr hG tk rfl T.g_counts k_counts (ia_cons (iv_v (iv_lst (ia_cons (iv_v iv_str) (ia_cons (iv_v iv_str) ia_nil (by rfl)) (by rfl)))) ia_nil (by rfl)) (by decide) rfl rfl)) ia_nil (by rfl)) (by rfl)))) (ig_sub hu1 (iv_v (wv 0)) (iv_v iv_str) (by intro _; rfl)) nx_sub)
    (is_cons (is_ret (wv 0))
    is_nil))))))))))))))
def m_known_others : DSt :=
    (mSeq (mSet 0 (mV mEmptyD))
    (mSeq (mSet 1 (mV (mCallF run_free [] 3 (mCons (mV (mC (.str "match"))) (mCons (mV (mC (.tup [(.str "selector")]))) (mCons (mV (mC (.str ""))) mNil))))))
    (mSeq (mAsg (mV (mTup (mCons (mV (mLst (mCons (mV (mVar 1)) (mCons (mV (mCallF run_free [] 3 (mCons (mV (mC (.str "least"))) (mCons (mV (mC (.tup [(.str "number"), (.int 0), (.int 12)]))) (mCons (mV (mC (.int 0))) mNil))))) mNil)))) (mCons (mV (mLst mNil)) mNil)))) (gSubM (mV (mVar 0)) (mV (mC (.str "budget")))))
    (mSeq (mSet 2 (mV (mLst (mCons (mV (mCallF run_free [] 3 (mCons (mV (mC (.str "most"))) (mCons (mV (mTup (mCons (mV (mC (.str "number"))) (mCons (mV (mC (.int 0))) (mCons (mV (mC (.int 40))) mNil))))) (mCons (mV (mC (.int 40))) mNil))))) (mCons (mV (mCallF run_free [] 3 (mCons (mV (mC (.str "cpu"))) (mCons (mV (mTup (mCons (mV (mC (.str "number"))) (mCons (mV (mC (.int 0))) (mCons (mV (mC (.int 999))) mNil))))) (mCons (mV (mC (.int 999))) mNil))))) mNil)))))
    (mSeq (mAsg (mV (mTup (mCons (mV (mBin opAdd (mLst (mCons (mV (mCallF run_free [] 3 (mCons (mV (mC (.str "of"))) (mCons (mV (mC (.tup [(.str "name")]))) (mCons (mV (mC (.str "task"))) mNil))))) mNil)) (mVar 2))) (mCons (mV (mLst mNil)) mNil)))) (gSubM (mV (mVar 0)) (mV (mC (.str "quota")))))
    (mSeq (mSet 3 (mV (mLst (mCons (mV (mCallF run_free [] 3 (mCons (mV (mC (.str "kind"))) (mCons (mV (mTup (mCons (mV (mC (.str "word"))) (mCons (mV (mTup (mCons (mV (mC (.str "set"))) (mCons (mV (mC (.str "rollout"))) mNil)))) mNil)))) (mCons (mV (mC (.str "rollout"))) mNil))))) (mCons (mV (mCallF run_free [] 3 (mCons (mV (mC (.str "target"))) (mCons (mV (mC (.tup [(.str "name")]))) (mCons (mV (mC (.str ""))) mNil))))) mNil)))))
    (mSeq (mAug 3 gIadd (mLst (mCons (mV (mCallF run_free [] 3 (mCons (mV (mC (.str "low"))) (mCons (mV (mC (.tup [(.str "number"), (.int 0), (.int 12)]))) (mCons (mV (mC (.int 1))) mNil))))) (mCons (mV (mCallF run_free [] 3 (mCons (mV (mC (.str "high"))) (mCons (mV (mC (.tup [(.str "number"), (.int 0), (.int 12)]))) (mCons (mV (mC (.int 12))) mNil))))) (mCons (mV (mCallF run_free [] 3 (mCons (mV (mC (.str "aim"))) (mCons (mV (mTup (mCons (mV (mC (.str "number"))) (mCons (mV (mC (.int 1))) (mCons (mV (mC (.int 100))) mNil))))) (mCons (mV (mC (.int 50))) mNil))))) mNil)))))
    (mSeq (mAsg (mV (mTup (mCons (mV (mVar 3)) (mCons (mV (mLst (mCons (mV (mCallF run_free [] 3 (mCons (mV (mC (.str "load"))) (mCons (mV (mTup (mCons (mV (mC (.str "number"))) (mCons (mV (mC (.int 0))) (mCons (mV (mC (.int 9999))) mNil))))) (mCons (mV (mC (.int 0))) mNil))))) mNil))) mNil)))) (gSubM (mV (mVar 0)) (mV (mC (.str "scaler")))))
    (mSeq (mAsg (mV (mTup (mCons (mV (mLst (mCons (mV (mVar 1)) mNil))) (mCons (mV (mLst (mCons (mV (mCallF run_free [] 3 (mCons (mV (mC (.str "ready"))) (mCons (mV (mC (.tup [(.str "text")]))) (mCons (mV (mC (.str ""))) mNil))))) mNil))) mNil)))) (gSubM (mV (mVar 0)) (mV (mC (.str "points")))))
    (mSeq (mSet 4 (mV (mLst (mCons (mV (mCallF run_free [] 3 (mCons (mV (mC (.str "cpu"))) (mCons (mV (mC (.tup [(.str "number"), (.int 0), (.int 64)]))) (mCons (mV (mC (.int 0))) mNil))))) (mCons (mV (mCallF run_free [] 3 (mCons (mV (mC (.str "mem"))) (mCons (mV (mC (.tup [(.str "number"), (.int 0), (.int 64)]))) (mCons (mV (mC (.int 0))) mNil))))) mNil)))))
    (mSeq (mAsg (mV (mTup (mCons (mV (mVar 4)) (mCons (mV (mLst (mCons (mV (mCallF run_free [] 3 (mCons (mV (mC (.str "seen"))) (mCons (mV (mC (.tup [(.str "number"), (.int 0), (.int 999999)]))) (mCons (mV (mC (.int 0))) mNil))))) (mCons (mV (mCallF run_free [] 3 (mCons (mV (mC (.str "state"))) (mCons (mV (mTup (mCons (mV (mC (.str "word"))) (mCons (mV (mTup (mCons (mV (mC (.str "up"))) (mCons (mV (mC (.str "silent"))) mNil)))) mNil)))) (mCons (mV (mC (.str "up"))) mNil))))) mNil)))) mNil)))) (gSubM (mV (mVar 0)) (mV (mC (.str "node")))))
    (mSeq (mSet 5 (mV (mLst (mCons (mV (mCallF run_free [] 3 (mCons (mV (mC (.str "holder"))) (mCons (mV (mC (.tup [(.str "name")]))) (mCons (mV (mC (.str ""))) mNil))))) (mCons (mV (mCallF run_free [] 3 (mCons (mV (mC (.str "renewed"))) (mCons (mV (mC (.tup [(.str "number"), (.int 0), (.int 999999)]))) (mCons (mV (mC (.int 0))) mNil))))) (mCons (mV (mCallF run_free [] 3 (mCons (mV (mC (.str "length"))) (mCons (mV (mC (.tup [(.str "number"), (.int 1), (.int 999)]))) (mCons (mV (mC (.int 10))) mNil))))) (mCons (mV (mCallF run_free [] 3 (mCons (mV (mC (.str "wait"))) (mCons (mV (mC (.tup [(.str "number"), (.int 1), (.int 999)]))) (mCons (mV (mC (.int 20))) mNil))))) mNil)))))))
    (mSeq (mAsg (mV (mTup (mCons (mV (mVar 5)) (mCons (mV (mLst mNil)) mNil)))) (gSubM (mV (mVar 0)) (mV (mC (.str "lease")))))
    (mSeq (mRet (mVar 0))
    mPass))))))))))))))
def run_known_others : Run := fnRun N_known_others.length m_known_others
/- known_others -/
theorem ok_known_others (T : Txt K mg w) (F : FnP K "known_others" s_known_others [] fd) : FnG P w K mg base (L2N.CX P w) 2 (He.ga K "known_others") fd ps_known_others (spI K ps_known_others.length run_known_others) := by
  obtain ⟨fd_free, F_free⟩ := T.d_free
  have G_free := (ok_free (P := P) (w := w) (base := base) T F_free)
  have k_free := F_free.kp
  have b_free := bi_free F_free
  refine okI F sc_known_others fun cdv A outer s H E hr hG tk hp => ?_
  have hu := hu_of hr
  have hu1 := hu1_of hr
  have hu64 := hu64_of hr
  have hT := hTabs T
  have hF := hFld T
  exact (is_cons (wset 0 sc_known_others.nd (iv_v iv_dnew))
    (is_cons (wset 1 sc_known_others.nd (iv_v (iv_call (fact_of G_free b_free rfl) hr hG tk rfl T.g_free k_free (ia_cons (iv_v iv_str) (ia_cons (iv_v (wgT (exT T.ex).t_SELECTOR T.g_SELECTOR)) (ia_cons (iv_v iv_str) ia_nil (by rfl)) (by rfl)) (by rfl)) (by decide) rfl rfl)))
    (is_cons (wasg (iv_v (iv_tup (ia_cons (iv_v (iv_lst (ia_cons (iv_v (wv 1)) (ia_cons (iv_v (iv_call (fact_of G_free b_free rfl) hr hG tk rfl T.g_free k_free (ia_cons (iv_v iv_str) (ia_cons (iv_v (wgT (exT T.ex).t_TWELVE T.g_TWELVE)) (ia_cons (iv_v iv_int) ia_nil (by rfl)) (by rfl)) (by rfl)) (by decide) rfl rfl)) ia_nil (by rfl)) (by rfl)))) (ia_cons (iv_v (iv_lst ia_nil)) ia_nil (by rfl)) (by rfl)))) (ig_sub hu1 (iv_v (wv 0)) (iv_v iv_str) (by intro _; rfl)) nx_sub)
    (is_cons (wset 2 sc_known_others.nd (iv_v (iv_lst (ia_cons (iv_v (iv_call (fact_of G_free b_free rfl) hr hG tk rfl T.g_free k_free (ia_cons (iv_v iv_str) (ia_cons (iv_v (iv_tup (ia_cons (iv_v iv_str) (ia_cons (iv_v iv_int) (ia_cons (iv_v iv_int) ia_nil (by rfl)) (by rfl)) (by rfl)))) (ia_cons (iv_v iv_int) ia_nil (by rfl)) (by rfl)) (by rfl)) (by decide) rfl rfl)) (ia_cons (iv_v (iv_call (fact_of G_free b_free rfl) hr hG tk rfl T.g_free k_free (ia_cons (iv_v iv_str) (ia_cons (iv_v (iv_tup (ia_cons (iv_v iv_str) (ia_cons (iv_v iv_int) (ia_cons (iv_v iv_int) ia_nil (by rfl)) (by rfl)) (by rfl)))) (ia_cons (iv_v iv_int) ia_nil (by rfl)) (by rfl)) (by rfl)) (by decide) rfl rfl)) ia_nil (by rfl)) (by rfl)))))
    (is_cons (wasg (iv_v (iv_tup (ia_cons (iv_v (iv_op opAdd_ok (iv_lst (ia_cons (iv_v (iv_call (fact_of G_free b_free rfl) hr hG tk rfl T.g_free k_free (ia_cons (iv_v iv_str) (ia_cons (iv_v (wgT (exT T.ex).t_NAME T.g_NAME)) (ia_cons (iv_v iv_str) ia_nil (by rfl)) (by rfl)) (by rfl)) (by decide) rfl rfl)) ia_nil (by rfl))) (wv 2))) (ia_cons (iv_v (iv_lst ia_nil)) ia_nil (by rfl)) (by rfl)))) (ig_sub hu1 (iv_v (wv 0)) (iv_v iv_str) (by intro _; rfl)) nx_sub)
    (is_cons (wset 3 sc_known_others.nd (iv_v (iv_lst (ia_cons (iv_v (iv_call (fact_of G_free b_free rfl) hr hG tk rfl T.g_free k_free (ia_cons (iv_v iv_str) (ia_cons (iv_v (iv_tup (ia_cons (iv_v iv_str) (ia_cons (iv_v (iv_tup (ia_cons (iv_v iv_str) (ia_cons (iv_v iv_str) ia_nil (by rfl)) (by rfl)))) ia_nil (by rfl)) (by rfl)))) (ia_cons (iv_v iv_str) ia_nil (by rfl)) (by rfl)) (by rfl)) (by decide) rfl rfl)) (ia_cons (iv_v (iv_call (fact_of G_free b_free rfl) hr hG tk rfl T.g_free k_free (ia_cons (iv_v iv_str) (ia_cons (iv_v (wgT (exT T.ex).t_NAME T.g_NAME)) (ia_cons (iv_v iv_str) ia_nil (by rfl)) (by rfl)) (by rfl)) (by decide) rfl rfl)) ia_nil (by rfl)) (by rfl)))))
    (is_cons (is_aug (i := 3) sc_known_others.nd rfl (by first | exact Or.inl rfl | exact Or.inr rfl) (iv_lst (ia_cons (iv_v (iv_call (fact_of G_free b_free rfl) hr hG tk rfl T.g_free k_free (ia_cons (iv_v iv_str) (ia_cons (iv_v (wgT (exT T.ex).t_TWELVE T.g_TWELVE)) (ia_cons (iv_v iv_int) ia_nil (by rfl)) (by rfl)) (by rfl)) (by decide) rfl rfl)) (ia_cons (iv_v (iv_call (fact_of G_free b_free rfl) hr hG tk rfl T.g_free k_free (ia_cons (iv_v iv_str) (ia_cons (iv_v (wgT (exT T.ex).t_TWELVE T.g_TWELVE)) (ia_cons (iv_v iv_int) ia_nil (by rfl)) (by rfl)) (by rfl)) (by decide) rfl rfl)) (ia_cons (iv_v (iv_call (fact_of G_free b_free rfl) hr hG tk rfl T.g_free k_free (ia_cons (iv_v iv_str) (ia_cons (iv_v (iv_tup (ia_cons (iv_v iv_str) (ia_cons (iv_v iv_int) (ia_cons (iv_v iv_int) ia_nil (by rfl)) (by rfl)) (by rfl)))) (ia_cons (iv_v iv_int) ia_nil (by rfl)) (by rfl)) (by rfl)) (by decide) rfl rfl)) ia_nil (by rfl)) (by rfl)) (by rfl))) ip_iadd (by first | exact Or.inl rfl | exact Or.inr rfl))
    (is_cons (wasg (iv_v (iv_tup (ia_cons (iv_v (wv 3)) (ia_cons (iv_v (iv_lst (ia_cons (iv_v (iv_call (fact_of G_free b_free rfl) hr hG tk rfl T.g_free k_free (ia_cons (iv_v iv_str) (ia_cons (iv_v (iv_tup (ia_cons (iv_v iv_str) (ia_cons (iv_v iv_int) (ia_cons (iv_v iv_int) ia_nil (by rfl)) (by rfl)) (by rfl)))) (ia_cons (iv_v iv_int) ia_nil (by rfl)) (by rfl)) (by rfl)) (by decide) rfl rfl)) ia_nil (by rfl)))) ia_nil (by rfl)) (by rfl)))) (ig_sub hu1 (iv_v (wv 0)) (iv_v iv_str) (by intro _; rfl)) nx_sub)
    (is_cons (wasg (iv_v (iv_tup (ia_cons (iv_v (iv_lst (ia_cons (iv_v (wv 1)) ia_nil (by rfl)))) (ia_cons (iv_v (iv_lst (ia_cons (iv_v (iv_call (fact_of G_free b_free rfl) hr hG tk rfl T.g_free k_free (ia_cons (iv_v iv_str) (ia_cons (iv_v (wgT (exT T.ex).t_TEXT T.g_TEXT)) (ia_cons (iv_v iv_str) ia_nil (by rfl)) (by rfl)) (by rfl)) (by decide) rfl rfl)) ia_nil (by rfl)))) ia_nil (by rfl)) (by rfl)))) (ig_sub hu1 (iv_v (wv 0)) (iv_v iv_str) (by intro _; rfl)) nx_sub)
    (is_cons (wset 4 sc_known_others.nd (iv_v (iv_lst (ia_cons (iv_v (iv_call (fact_of G_free b_free rfl) hr hG tk rfl T.g_free k_free (ia_cons (iv_v iv_str) (ia_cons (iv_v (wgT (exT T.ex).t_AMOUNT T.g_AMOUNT)) (ia_cons (iv_v iv_int) ia_nil (by rfl)) (by rfl)) (by rfl)) (by decide) rfl rfl)) (ia_cons (iv_v (iv_call (fact_of G_free b_free rfl) hr hG tk rfl T.g_free k_free (ia_cons (iv_v iv_str) (ia_cons (iv_v (wgT (exT T.ex).t_AMOUNT T.g_AMOUNT)) (ia_cons (iv_v iv_int) ia_nil (by rfl)) (by rfl)) (by rfl)) (by decide) rfl rfl)) ia_nil (by rfl)) (by rfl)))))
    (is_cons (wasg (iv_v (iv_tup (ia_cons (iv_v (wv 4)) (ia_cons (iv_v (iv_lst (ia_cons (iv_v (iv_call (fact_of G_free b_free rfl) hr hG tk rfl T.g_free k_free (ia_cons (iv_v iv_str) (ia_cons (iv_v (wgT (exT T.ex).t_TEMPLATE T.g_TEMPLATE)) (ia_cons (iv_v iv_int) ia_nil (by rfl)) (by rfl)) (by rfl)) (by decide) rfl rfl)) (ia_cons (iv_v (iv_call (fact_of G_free b_free rfl) hr hG tk rfl T.g_free k_free (ia_cons (iv_v iv_str) (ia_cons (iv_v (iv_tup (ia_cons (iv_v iv_str) (ia_cons (iv_v (iv_tup (ia_cons (iv_v iv_str) (ia_cons (iv_v iv_str) ia_nil (by rfl)) (by rfl)))) ia_nil (by rfl)) (by rfl)))) (ia_cons (iv_v iv_str) ia_nil (by rfl)) (by rfl)) (by rfl)) (by decide) rfl rfl)) ia_nil (by rfl)) (by rfl)))) ia_nil (by rfl)) (by rfl)))) (ig_sub hu1 (iv_v (wv 0)) (iv_v iv_str) (by intro _; rfl)) nx_sub)
    (is_cons (wset 5 sc_known_others.nd (iv_v (iv_lst (ia_cons (iv_v (iv_call (fact_of G_free b_free rfl) hr hG tk rfl T.g_free k_free (ia_cons (iv_v iv_str) (ia_cons (iv_v (wgT (exT T.ex).t_NAME T.g_NAME)) (ia_cons (iv_v iv_str) ia_nil (by rfl)) (by rfl)) (by rfl)) (by decide) rfl rfl)) (ia_cons (iv_v (iv_call (fact_of G_free b_free rfl) hr hG tk rfl T.g_free k_free (ia_cons (iv_v iv_str) (ia_cons (iv_v (wgT (exT T.ex).t_TEMPLATE T.g_TEMPLATE)) (ia_cons (iv_v iv_int) ia_nil (by rfl)) (by rfl)) (by rfl)) (by decide) rfl rfl)) (ia_cons (iv_v (iv_call (fact_of G_free b_free rfl) hr hG tk rfl T.g_free k_free (ia_cons (iv_v iv_str) (ia_cons (iv_v (wgT (exT T.ex).t_LONG T.g_LONG)) (ia_cons (iv_v iv_int) ia_nil (by rfl)) (by rfl)) (by rfl)) (by decide) rfl rfl)) (ia_cons (iv_v (iv_call (fact_of G_free b_free rfl) hr hG tk rfl T.g_free k_free (ia_cons (iv_v iv_str) (ia_cons (iv_v (wgT (exT T.ex).t_LONG T.g_LONG)) (ia_cons (iv_v iv_int) ia_nil (by rfl)) (by rfl)) (by rfl)) (by decide) rfl rfl)) ia_nil (by rfl)) (by rfl)) (by rfl)) (by rfl)))))
    (is_cons (wasg (iv_v (iv_tup (ia_cons (iv_v (wv 5)) (ia_cons (iv_v (iv_lst ia_nil)) ia_nil (by rfl)) (by rfl)))) (ig_sub hu1 (iv_v (wv 0)) (iv_v iv_str) (by intro _; rfl)) nx_sub)
    (is_cons (is_ret (wv 0))
    is_nil))))))))))))))
def m__law_cell_at : DSt :=
    (mSeq (mIfS (mCmpT (opCmp .Lt) (mVar 1) (mBlt bLen (mConsR (mVar 0) mNilR))) (mSeq (mRet (mBin (opIx tabs) (mVar 0) (mVar 1)))
      mPass) mPass)
    (mSeq (mRet (mC (.int 0)))
    mPass))
def run__law_cell_at : Run := fnRun N__law_cell_at.length m__law_cell_at
/- _law_cell_at -/
theorem ok__law_cell_at (T : Txt K mg w) (F : FnP K "_law_cell_at" s__law_cell_at [] fd) : FnG P w K mg base (L2N.CX P w) 1 (He.ga K "_law_cell_at") fd ps__law_cell_at (spI K ps__law_cell_at.length run__law_cell_at) := by
  refine okI F sc__law_cell_at fun cdv A outer s H E hr hG tk hp => ?_
  have hu := hu_of hr
  have hu1 := hu1_of hr
  have hu64 := hu64_of hr
  have hT := hTabs T
  have hF := hFld T
  exact (is_cons (is_if (iv_cmpT (op := .Lt) hu (wv 1) (wb cb_len T.n_len (by decide +kernel) (ir_cons (wv 0) ir_nil (by rfl))) (by rfl)) (is_cons (is_ret (iv_ix hT hu (wv 0) (wv 1) (fun _ _ => rfl)))
      is_nil) is_nil)
    (is_cons (is_ret iv_int)
    is_nil))
def m__law_source : DSt :=
    (mSeq (mRet (mLst (mCons (mV (mBin opMul (mVar 0) (mBlt bInt (mConsR (mCmp (opCmp .GtE) (mVar 0) (mBin opPow (mC (.int 10)) (mC (.int 18)))) mNilR)))) (mCons (mV (mBin opMod (mBlt bInt (mConsR (mVar 0) mNilR)) (mC (.int 2147483647)))) (mCons (mV (mC (.int 0))) mNil)))))
    mPass)
def run__law_source : Run := fnRun N__law_source.length m__law_source
/- _law_source -/
theorem ok__law_source (T : Txt K mg w) (F : FnP K "_law_source" s__law_source [] fd) : FnG P w K mg base (L2N.CX P w) 1 (He.ga K "_law_source") fd ps__law_source (spI K ps__law_source.length run__law_source) := by
  refine okI F sc__law_source fun cdv A outer s H E hr hG tk hp => ?_
  have hu := hu_of hr
  have hu1 := hu1_of hr
  have hu64 := hu64_of hr
  have hT := hTabs T
  have hF := hFld T
  exact (is_cons (is_ret (iv_lst (ia_cons (iv_v (iv_op opMul_ok (wv 0) (wt cb_int T.n_int (by decide +kernel) (ir_cons (iv_cmp (op := .GtE) hu (wv 0) (iv_op opPow_ok iv_int iv_int) (by rfl)) ir_nil (by rfl))))) (ia_cons (iv_v (iv_op opMod_ok (wt cb_int T.n_int (by decide +kernel) (ir_cons (wv 0) ir_nil (by rfl))) iv_int)) (ia_cons (iv_v iv_int) ia_nil (by rfl)) (by rfl)) (by rfl))))
    is_nil)
def m__law_draw : DSt :=
    (mSeq (mIfS (mCmpT (opCmp .Gt) (mBin (opIx tabs) (mVar 0) (mC (.int 0))) (mC (.int 0))) (mSeq (mSet 2 (mV (mBin opMod (mBlt bInt (mConsR (mBin (opIx tabs) (mVar 0) (mC (.int 0))) mNilR)) (mVar 1))))
      (mSeq (mAsg (mV (mBin opDiv (mBin (opIx tabs) (mVar 0) (mC (.int 0))) (mVar 1))) (gSubM (mV (mVar 0)) (mV (mC (.int 0)))))
      (mSeq (mRet (mVar 2))
      mPass))) mPass)
    (mSeq (mAsg (mV (mBin opAdd (mBin (opIx tabs) (mVar 0) (mC (.int 2))) (mC (.int 1)))) (gSubM (mV (mVar 0)) (mV (mC (.int 2)))))
    (mSeq (mSet 3 (mV (mBin opMod (mBlt bInt (mConsR (mBin opPow (mBin opAdd (mBin opAdd (mBin (opIx tabs) (mVar 0) (mC (.int 1))) (mBin opMul (mC (.int 7919)) (mBin (opIx tabs) (mVar 0) (mC (.int 2))))) (mC (.int 1))) (mC (.int 5))) mNilR)) (mC (.int 2147483629)))))
    (mSeq (mSet 3 (mV (mBin opMod (mBlt bInt (mConsR (mBin opMul (mVar 3) (mBin opAdd (mBin opAdd (mBin opDiv (mVar 3) (mC (.int 1009))) (mC (.int 69621))) (mBin (opIx tabs) (mVar 0) (mC (.int 2))))) mNilR)) (mC (.int 2147483587)))))
    (mSeq (mRet (mBin opMod (mBlt bInt (mConsR (mBin opDiv (mBin opMod (mBlt bInt (mConsR (mBin opMul (mVar 3) (mBin opAdd (mBin opDiv (mVar 3) (mC (.int 2003))) (mC (.int 40692)))) mNilR)) (mC (.int 2147483579))) (mC (.int 7))) mNilR)) (mVar 1)))
    mPass)))))
def run__law_draw : Run := fnRun N__law_draw.length m__law_draw
/- _law_draw -/
theorem ok__law_draw (T : Txt K mg w) (F : FnP K "_law_draw" s__law_draw [] fd) : FnG P w K mg base (L2N.CX P w) 1 (He.ga K "_law_draw") fd ps__law_draw (spI K ps__law_draw.length run__law_draw) := by
  refine okI F sc__law_draw fun cdv A outer s H E hr hG tk hp => ?_
  have hu := hu_of hr
  have hu1 := hu1_of hr
  have hu64 := hu64_of hr
  have hT := hTabs T
  have hF := hFld T
  exact (is_cons (is_if (iv_cmpT (op := .Gt) hu (iv_ix hT hu (wv 0) iv_int (fun _ _ => rfl)) iv_int (by rfl)) (is_cons (wset 2 sc__law_draw.nd (iv_v (iv_op opMod_ok (wt cb_int T.n_int (by decide +kernel) (ir_cons (iv_ix hT hu (wv 0) iv_int (fun _ _ => rfl)) ir_nil (by rfl))) (wv 1))))
      (is_cons (wasg (iv_v (iv_op opDiv_ok (iv_ix hT hu (wv 0) iv_int (fun _ _ => rfl)) (wv 1))) (ig_sub hu1 (iv_v (wv 0)) (iv_v iv_int) (by intro _; rfl)) nx_sub)
      (is_cons (is_ret (wv 2))
      is_nil))) is_nil)
    (is_cons (wasg (iv_v (iv_op opAdd_ok (iv_ix hT hu (wv 0) iv_int (fun _ _ => rfl)) iv_int)) (ig_sub hu1 (iv_v (wv 0)) (iv_v iv_int) (by intro _; rfl)) nx_sub)
    (is_cons (wset 3 sc__law_draw.nd (iv_v (iv_op opMod_ok (wt cb_int T.n_int (by decide +kernel) (ir_cons (iv_op opPow_ok (iv_op opAdd_ok (iv_op opAdd_ok (iv_ix hT hu (wv 0) iv_int (fun _ _ => rfl)) (iv_op opMul_ok iv_int (iv_ix hT hu (wv 0) iv_int (fun _ _ => rfl)))) iv_int) iv_int) ir_nil (by rfl))) iv_int)))
    (is_cons (wset 3 sc__law_draw.nd (iv_v (iv_op opMod_ok (wt cb_int T.n_int (by decide +kernel) (ir_cons (iv_op opMul_ok (wv 3) (iv_op opAdd_ok (iv_op opAdd_ok (iv_op opDiv_ok (wv 3) iv_int) iv_int) (iv_ix hT hu (wv 0) iv_int (fun _ _ => rfl)))) ir_nil (by rfl))) iv_int)))
    (is_cons (is_ret (iv_op opMod_ok (wt cb_int T.n_int (by decide +kernel) (ir_cons (iv_op opDiv_ok (iv_op opMod_ok (wt cb_int T.n_int (by decide +kernel) (ir_cons (iv_op opMul_ok (wv 3) (iv_op opAdd_ok (iv_op opDiv_ok (wv 3) iv_int) iv_int)) ir_nil (by rfl))) iv_int) iv_int) ir_nil (by rfl))) (wv 1)))
    is_nil)))))
def m__law_pick : DSt :=
    (mSeq (mRet (mBin (opIx tabs) (mVar 1) (mCallF run__law_draw [] 2 (mCons (mV (mVar 0)) (mCons (mV (mBlt bLen (mConsR (mVar 1) mNilR))) mNil)))))
    mPass)
def run__law_pick : Run := fnRun N__law_pick.length m__law_pick
/- _law_pick -/
theorem ok__law_pick (T : Txt K mg w) (F : FnP K "_law_pick" s__law_pick [] fd) : FnG P w K mg base (L2N.CX P w) 2 (He.ga K "_law_pick") fd ps__law_pick (spI K ps__law_pick.length run__law_pick) := by
  obtain ⟨fd__law_draw, F__law_draw⟩ := T.d__law_draw
  have G__law_draw := (ok__law_draw (P := P) (w := w) (base := base) T F__law_draw)
  have k__law_draw := F__law_draw.kp
  have b__law_draw := bi__law_draw F__law_draw
  refine okI F sc__law_pick fun cdv A outer s H E hr hG tk hp => ?_
  have hu := hu_of hr
  have hu1 := hu1_of hr
  have hu64 := hu64_of hr
  have hT := hTabs T
  have hF := hFld T
  exact (is_cons (is_ret (iv_ix hT hu (wv 1) (iv_call (fact_of G__law_draw b__law_draw rfl) hr hG tk rfl T.g__law_draw k__law_draw (ia_cons (iv_v (wv 0)) (ia_cons (iv_v (wb cb_len T.n_len (by decide +kernel) (ir_cons (wv 1) ir_nil (by rfl)))) ia_nil (by rfl)) (by rfl)) (by decide) rfl rfl) (fun _ _ => rfl)))
    is_nil)
def m__law_made : DSt :=
    (mSeq (mSet 1 (mV (mLst (mCons (mV (mTup (mCons (mV (mC (.str "cpu"))) (mCons (mV (mTup (mCons (mV (mC (.str "number"))) (mCons (mV (mC (.int 0))) (mCons (mV (mC (.int 64))) mNil))))) (mCons (mV (mC (.int 0))) (mCons (mV (mVar 0)) mNil)))))) (mCons (mV (mTup (mCons (mV (mC (.str "mem"))) (mCons (mV (mTup (mCons (mV (mC (.str "number"))) (mCons (mV (mC (.int 0))) (mCons (mV (mC (.int 64))) mNil))))) (mCons (mV (mC (.int 0))) (mCons (mV (mVar 0)) mNil)))))) mNil)))))
    (mSeq (mRet (mBin opAdd (mVar 1) (mLst (mCons (mV (mTup (mCons (mV (mC (.str "pick"))) (mCons (mV (mTup (mCons (mV (mC (.str "selector"))) mNil))) (mCons (mV (mC (.str ""))) (mCons (mV (mVar 0)) mNil)))))) (mCons (mV (mTup (mCons (mV (mC (.str "prio"))) (mCons (mV (mTup (mCons (mV (mC (.str "number"))) (mCons (mV (mC (.int 0))) (mCons (mV (mC (.int 9))) mNil))))) (mCons (mV (mC (.int 0))) (mCons (mV (mVar 0)) mNil)))))) mNil)))))
    mPass))
def run__law_made : Run := fnRun N__law_made.length m__law_made
/- _law_made -/
theorem ok__law_made (T : Txt K mg w) (F : FnP K "_law_made" s__law_made [] fd) : FnG P w K mg base (L2N.CX P w) 1 (He.ga K "_law_made") fd ps__law_made (spI K ps__law_made.length run__law_made) := by
  refine okI F sc__law_made fun cdv A outer s H E hr hG tk hp => ?_
  have hu := hu_of hr
  have hu1 := hu1_of hr
  have hu64 := hu64_of hr
  have hT := hTabs T
  have hF := hFld T
  exact (is_cons (wset 1 sc__law_made.nd (iv_v (iv_lst (ia_cons (iv_v (iv_tup (ia_cons (iv_v iv_str) (ia_cons (iv_v (iv_tup (ia_cons (iv_v iv_str) (ia_cons (iv_v iv_int) (ia_cons (iv_v iv_int) ia_nil (by rfl)) (by rfl)) (by rfl)))) (ia_cons (iv_v iv_int) (ia_cons (iv_v (wv 0)) ia_nil (by rfl)) (by rfl)) (by rfl)) (by rfl)))) (ia_cons (iv_v (iv_tup (ia_cons (iv_v iv_str) (ia_cons (iv_v (iv_tup (ia_cons (iv_v iv_str) (ia_cons (iv_v iv_int) (ia_cons (iv_v iv_int) ia_nil (by rfl)) (by rfl)) (by rfl)))) (ia_cons (iv_v iv_int) (ia_cons (iv_v (wv 0)) ia_nil (by rfl)) (by rfl)) (by rfl)) (by rfl)))) ia_nil (by rfl)) (by rfl)))))
    (is_cons (is_ret (iv_op opAdd_ok (wv 1) (iv_lst (ia_cons (iv_v (iv_tup (ia_cons (iv_v iv_str) (ia_cons (iv_v (iv_tup (ia_cons (iv_v iv_str) ia_nil (by rfl)))) (ia_cons (iv_v iv_str) (ia_cons (iv_v (wv 0)) ia_nil (by rfl)) (by rfl)) (by rfl)) (by rfl)))) (ia_cons (iv_v (iv_tup (ia_cons (iv_v iv_str) (ia_cons (iv_v (iv_tup (ia_cons (iv_v iv_str) (ia_cons (iv_v iv_int) (ia_cons (iv_v iv_int) ia_nil (by rfl)) (by rfl)) (by rfl)))) (ia_cons (iv_v iv_int) (ia_cons (iv_v (wv 0)) ia_nil (by rfl)) (by rfl)) (by rfl)) (by rfl)))) ia_nil (by rfl)) (by rfl)))))
    is_nil))
def m__law_counts : DSt :=
    (mSeq (mRet (mLc (mIter (mVar 0)) (.nm 1) mYes (mV (mTup (mCons (mV (mVar 1)) (mCons (mV (mTup (mCons (mV (mC (.str "number"))) (mCons (mV (mC (.int 0))) (mCons (mV (mC (.int 99))) mNil))))) (mCons (mV (mC (.int 0))) (mCons (mV (mC (.bl false))) mNil)))))) [1]))
    mPass)
def run__law_counts : Run := fnRun N__law_counts.length m__law_counts
/- _law_counts -/
theorem ok__law_counts (T : Txt K mg w) (F : FnP K "_law_counts" s__law_counts [] fd) : FnG P w K mg base (L2N.CX P w) 1 (He.ga K "_law_counts") fd ps__law_counts (spI K ps__law_counts.length run__law_counts) := by
  refine okI F sc__law_counts fun cdv A outer s H E hr hG tk hp => ?_
  have hu := hu_of hr
  have hu1 := hu1_of hr
  have hu64 := hu64_of hr
  have hT := hTabs T
  have hF := hFld T
  exact (is_cons (is_ret (iv_lc (own := [("_law_name", 1)]) rfl sc__law_counts.nd (ii_iter (wv 0)) (blkOk_by (own := [("_law_name", 1)]) (by kernel_rfl)) (fun _ _ _ _ _ => (gnm 1 sc__law_counts.nd)) (fun _ _ _ _ _ => its_nil) (fun _ _ _ _ _ => (iv_v (iv_tup (ia_cons (iv_v (wv 1)) (ia_cons (iv_v (iv_tup (ia_cons (iv_v iv_str) (ia_cons (iv_v iv_int) (ia_cons (iv_v iv_int) ia_nil (by rfl)) (by rfl)) (by rfl)))) (ia_cons (iv_v iv_int) (ia_cons (iv_v iv_bl) ia_nil (by rfl)) (by rfl)) (by rfl)) (by rfl))))) (fun _ => rfl)))
    is_nil)
def m__law_number : DSt :=
    (mSeq (mRet (mTup (mCons (mV (mVar 0)) (mCons (mV (mTup (mCons (mV (mC (.str "number"))) (mCons (mV (mVar 1)) (mCons (mV (mVar 2)) mNil))))) (mCons (mV (mVar 3)) (mCons (mV (mC (.bl false))) mNil))))))
    mPass)
def run__law_number : Run := fnRun N__law_number.length m__law_number
/- _law_number -/
theorem ok__law_number (T : Txt K mg w) (F : FnP K "_law_number" s__law_number [] fd) : FnG P w K mg base (L2N.CX P w) 1 (He.ga K "_law_number") fd ps__law_number (spI K ps__law_number.length run__law_number) := by
  refine okI F sc__law_number fun cdv A outer s H E hr hG tk hp => ?_
  have hu := hu_of hr
  have hu1 := hu1_of hr
  have hu64 := hu64_of hr
  have hT := hTabs T
  have hF := hFld T
  exact (is_cons (is_ret (iv_tup (ia_cons (iv_v (wv 0)) (ia_cons (iv_v (iv_tup (ia_cons (iv_v iv_str) (ia_cons (iv_v (wv 1)) (ia_cons (iv_v (wv 2)) ia_nil (by rfl)) (by rfl)) (by rfl)))) (ia_cons (iv_v (wv 3)) (ia_cons (iv_v iv_bl) ia_nil (by rfl)) (by rfl)) (by rfl)) (by rfl))))
    is_nil)
def m__law_word : DSt :=
    (mSeq (mRet (mTup (mCons (mV (mVar 0)) (mCons (mV (mTup (mCons (mV (mC (.str "word"))) (mCons (mV (mVar 1)) mNil)))) (mCons (mV (mBin (opIx tabs) (mVar 1) (mC (.int 0)))) (mCons (mV (mC (.bl false))) mNil))))))
    mPass)
def run__law_word : Run := fnRun N__law_word.length m__law_word
/- _law_word -/
theorem ok__law_word (T : Txt K mg w) (F : FnP K "_law_word" s__law_word [] fd) : FnG P w K mg base (L2N.CX P w) 1 (He.ga K "_law_word") fd ps__law_word (spI K ps__law_word.length run__law_word) := by
  refine okI F sc__law_word fun cdv A outer s H E hr hG tk hp => ?_
  have hu := hu_of hr
  have hu1 := hu1_of hr
  have hu64 := hu64_of hr
  have hT := hTabs T
  have hF := hFld T
  exact (is_cons (is_ret (iv_tup (ia_cons (iv_v (wv 0)) (ia_cons (iv_v (iv_tup (ia_cons (iv_v iv_str) (ia_cons (iv_v (wv 1)) ia_nil (by rfl)) (by rfl)))) (ia_cons (iv_v (iv_ix hT hu (wv 1) iv_int (fun _ _ => rfl))) (ia_cons (iv_v iv_bl) ia_nil (by rfl)) (by rfl)) (by rfl)) (by rfl))))
    is_nil)
def m__law_makers : DSt :=
    (mSeq (mSet 0 (mV (mLst (mCons (mV (mTup (mCons (mV (mC (.str "template"))) (mCons (mV (mTup (mCons (mV (mC (.str "number"))) (mCons (mV (mC (.int 0))) (mCons (mV (mC (.int 999999))) mNil))))) (mCons (mV (mC (.int 0))) (mCons (mV (mC (.bl true))) mNil)))))) mNil))))
    (mSeq (mSet 1 (mV (mLst (mCons (mV (mTup (mCons (mV (mC (.str "template"))) (mCons (mV (mTup (mCons (mV (mC (.str "number"))) (mCons (mV (mC (.int 0))) (mCons (mV (mC (.int 999999))) mNil))))) (mCons (mV (mC (.int 0))) (mCons (mV (mC (.bl false))) mNil)))))) mNil))))
    (mSeq (mSet 2 (mV (mLst (mCons (mV (mCallF run__law_number [] 4 (mCons (mV (mC (.str "replicas"))) (mCons (mV (mC (.int 0))) (mCons (mV (mC (.int 12))) (mCons (mV (mC (.int 1))) mNil)))))) mNil))))
    (mSeq (mSet 3 (mV (mLst (mCons (mV (mTup (mCons (mV (mC (.str "only"))) (mCons (mV (mTup (mCons (mV (mC (.str "name"))) mNil))) (mCons (mV (mC (.str ""))) (mCons (mV (mC (.bl true))) mNil)))))) (mCons (mV (mTup (mCons (mV (mC (.str "node"))) (mCons (mV (mTup (mCons (mV (mC (.str "name"))) mNil))) (mCons (mV (mC (.str ""))) (mCons (mV (mC (.bl false))) mNil)))))) mNil)))))
    (mSeq (mSet 4 (mV (mTup (mCons (mV (mC (.str "pending"))) (mCons (mV (mC (.str "running"))) (mCons (mV (mC (.str "ready"))) (mCons (mV (mC (.str "done"))) (mCons (mV (mC (.str "failed"))) mNil))))))))
    (mSeq (mSet 5 (mV (mDisp (((mC (.str "task")), (mV (mTup (mCons (mV (mBin opAdd (mBin opAdd (mCallF run__law_made [] 1 (mCons (mV (mC (.bl true))) mNil)) (mVar 0)) (mVar 3))) (mCons (mV (mLst (mCons (mV (mCallF run__law_word [] 2 (mCons (mV (mC (.str "phase"))) (mCons (mV (mVar 4)) mNil)))) (mCons (mV (mTup (mCons (mV (mC (.str "wants"))) (mCons (mV (mTup (mCons (mV (mC (.str "name"))) mNil))) (mCons (mV (mC (.str ""))) (mCons (mV (mC (.bl false))) mNil)))))) mNil)))) mNil))))) :: []))))
    (mSeq (mExpr (mMt "list" gAppend (mV (mBin (opIx tabs) (mBin (opIx tabs) (mVar 5) (mC (.str "task"))) (mC (.int 1)))) (mCons (mV (mTup (mCons (mV (mC (.str "why"))) (mCons (mV (mTup (mCons (mV (mC (.str "text"))) mNil))) (mCons (mV (mC (.str ""))) (mCons (mV (mC (.bl false))) mNil)))))) mNil)))
    (mSeq (mAsg (mV (mTup (mCons (mV (mBin opAdd (mBin opAdd (mCallF run__law_made [] 1 (mCons (mV (mC (.bl true))) mNil)) (mVar 0)) (mVar 2))) (mCons (mV (mCallF run__law_counts [] 1 (mCons (mV (mLst (mCons (mV (mC (.str "made"))) (mCons (mV (mC (.str "ready"))) (mCons (mV (mC (.str "old"))) mNil))))) mNil))) mNil)))) (gSubM (mV (mVar 5)) (mV (mC (.str "set")))))
    (mSeq (mSet 6 (mV (mLst (mCons (mV (mCallF run__law_number [] 4 (mCons (mV (mC (.str "surge"))) (mCons (mV (mC (.int 0))) (mCons (mV (mC (.int 4))) (mCons (mV (mC (.int 1))) mNil)))))) (mCons (mV (mCallF run__law_number [] 4 (mCons (mV (mC (.str "down"))) (mCons (mV (mC (.int 0))) (mCons (mV (mC (.int 4))) (mCons (mV (mC (.int 0))) mNil)))))) mNil)))))
    (mSeq (mSet 7 (mV (mLst (mCons (mV (mCallF run__law_word [] 2 (mCons (mV (mC (.str "state"))) (mCons (mV (mTup (mCons (mV (mC (.str "moving"))) (mCons (mV (mC (.str "still"))) mNil)))) mNil)))) mNil))))
    (mSeq (mAsg (mV (mTup (mCons (mV (mBin opAdd (mBin opAdd (mBin opAdd (mCallF run__law_made [] 1 (mCons (mV (mC (.bl false))) mNil)) (mVar 1)) (mVar 2)) (mVar 6))) (mCons (mV (mBin opAdd (mCallF run__law_counts [] 1 (mCons (mV (mLst (mCons (mV (mC (.str "made"))) (mCons (mV (mC (.str "ready"))) mNil)))) mNil)) (mVar 7))) mNil)))) (gSubM (mV (mVar 5)) (mV (mC (.str "rollout")))))
    (mSeq (mSet 8 (mV (mLst (mCons (mV (mTup (mCons (mV (mC (.str "wanted"))) (mCons (mV (mTup (mCons (mV (mC (.str "number"))) (mCons (mV (mC (.int 1))) (mCons (mV (mC (.int 8))) mNil))))) (mCons (mV (mC (.int 1))) (mCons (mV (mC (.bl true))) mNil)))))) (mCons (mV (mTup (mCons (mV (mC (.str "wide"))) (mCons (mV (mTup (mCons (mV (mC (.str "number"))) (mCons (mV (mC (.int 1))) (mCons (mV (mC (.int 4))) mNil))))) (mCons (mV (mC (.int 1))) (mCons (mV (mC (.bl true))) mNil)))))) mNil)))))
    (mSeq (mExpr (mMt "list" gAppend (mV (mVar 8)) (mCons (mV (mTup (mCons (mV (mC (.str "tries"))) (mCons (mV (mTup (mCons (mV (mC (.str "number"))) (mCons (mV (mC (.int 0))) (mCons (mV (mC (.int 4))) mNil))))) (mCons (mV (mC (.int 0))) (mCons (mV (mC (.bl true))) mNil)))))) mNil)))
    (mSeq (mSet 7 (mV (mLst (mCons (mV (mCallF run__law_word [] 2 (mCons (mV (mC (.str "state"))) (mCons (mV (mTup (mCons (mV (mC (.str "on"))) (mCons (mV (mC (.str "done"))) (mCons (mV (mC (.str "failed"))) mNil))))) mNil)))) mNil))))
    (mSeq (mAsg (mV (mTup (mCons (mV (mBin opAdd (mCallF run__law_made [] 1 (mCons (mV (mC (.bl true))) mNil)) (mVar 8))) (mCons (mV (mBin opAdd (mCallF run__law_counts [] 1 (mCons (mV (mLst (mCons (mV (mC (.str "done"))) (mCons (mV (mC (.str "failed"))) mNil)))) mNil)) (mVar 7))) mNil)))) (gSubM (mV (mVar 5)) (mV (mC (.str "job")))))
    (mSeq (mAsg (mV (mTup (mCons (mV (mBin opAdd (mCallF run__law_made [] 1 (mCons (mV (mC (.bl true))) mNil)) (mVar 0))) (mCons (mV (mCallF run__law_counts [] 1 (mCons (mV (mLst (mCons (mV (mC (.str "made"))) (mCons (mV (mC (.str "ready"))) mNil)))) mNil))) mNil)))) (gSubM (mV (mVar 5)) (mV (mC (.str "each")))))
    (mSeq (mRet (mVar 5))
    mPass)))))))))))))))))
def run__law_makers : Run := fnRun N__law_makers.length m__law_makers
/- _law_makers -/
theorem ok__law_makers (T : Txt K mg w) (F : FnP K "_law_makers" s__law_makers [] fd) : FnG P w K mg base (L2N.CX P w) 2 (He.ga K "_law_makers") fd ps__law_makers (spI K ps__law_makers.length run__law_makers) := by
  obtain ⟨fd__law_counts, F__law_counts⟩ := T.d__law_counts
  have G__law_counts := (ok__law_counts (P := P) (w := w) (base := base) T F__law_counts)
  have k__law_counts := F__law_counts.kp
  have b__law_counts := bi__law_counts F__law_counts
  obtain ⟨fd__law_made, F__law_made⟩ := T.d__law_made
  have G__law_made := (ok__law_made (P := P) (w := w) (base := base) T F__law_made)
  have k__law_made := F__law_made.kp
  have b__law_made := bi__law_made F__law_made
  obtain ⟨fd__law_number, F__law_number⟩ := T.d__law_number
  have G__law_number := (ok__law_number (P := P) (w := w) (base := base) T F__law_number)
  have k__law_number := F__law_number.kp
  have b__law_number := bi__law_number F__law_number
  obtain ⟨fd__law_word, F__law_word⟩ := T.d__law_word
  have G__law_word := (ok__law_word (P := P) (w := w) (base := base) T F__law_word)
  have k__law_word := F__law_word.kp
  have b__law_word := bi__law_word F__law_word
  refine okI F sc__law_makers fun cdv A outer s H E hr hG tk hp => ?_
  have hu := hu_of hr
  have hu1 := hu1_of hr
  have hu64 := hu64_of hr
  have hT := hTabs T
  have hF := hFld T
  exact (is_cons (wset 0 sc__law_makers.nd (iv_v (iv_lst (ia_cons (iv_v (iv_tup (ia_cons (iv_v iv_str) (ia_cons (iv_v (iv_tup (ia_cons (iv_v iv_str) (ia_cons (iv_v iv_int) (ia_cons (iv_v iv_int) ia_nil (by rfl)) (by rfl)) (by rfl)))) (ia_cons (iv_v iv_int) (ia_cons (iv_v iv_bl) ia_nil (by rfl)) (by rfl)) (by rfl)) (by rfl)))) ia_nil (by rfl)))))
    (is_cons (wset 1 sc__law_makers.nd (iv_v (iv_lst (ia_cons (iv_v (iv_tup (ia_cons (iv_v iv_str) (ia_cons (iv_v (iv_tup (ia_cons (iv_v iv_str) (ia_cons (iv_v iv_int) (ia_cons (iv_v iv_int) ia_nil (by rfl)) (by rfl)) (by rfl)))) (ia_cons (iv_v iv_int) (ia_cons (iv_v iv_bl) ia_nil (by rfl)) (by rfl)) (by rfl)) (by rfl)))) ia_nil (by rfl)))))
    (is_cons (wset 2 sc__law_makers.nd (iv_v (iv_lst (ia_cons (iv_v (iv_call (fact_of G__law_number b__law_number rfl) hr hG tk rfl T.g__law_number k__law_number (ia_cons (iv_v iv_str) (ia_cons (iv_v iv_int) (ia_cons (iv_v iv_int) (ia_cons (iv_v iv_int) ia_nil (by rfl)) (by rfl)) (by rfl)) (by rfl)) (by decide) rfl rfl)) ia_nil (by rfl)))))
    (is_cons (wset 3 sc__law_makers.nd (iv_v (iv_lst (ia_cons (iv_v (iv_tup (ia_cons (iv_v iv_str) (ia_cons (iv_v (iv_tup (ia_cons (iv_v iv_str) ia_nil (by rfl)))) (ia_cons (iv_v iv_str) (ia_cons (iv_v iv_bl) ia_nil (by rfl)) (by rfl)) (by rfl)) (by rfl)))) (ia_cons (iv_v (iv_tup (ia_cons (iv_v iv_str) (ia_cons (iv_v (iv_tup (ia_cons (iv_v iv_str) ia_nil (by rfl)))) (ia_cons (iv_v iv_str) (ia_cons (iv_v iv_bl) ia_nil (by rfl)) (by rfl)) (by rfl)) (by rfl)))) ia_nil (by rfl)) (by rfl)))))
    (is_cons (wset 4 sc__law_makers.nd (iv_v (iv_tup (ia_cons (iv_v iv_str) (ia_cons (iv_v iv_str) (ia_cons (iv_v iv_str) (ia_cons (iv_v iv_str) (ia_cons (iv_v iv_str) ia_nil (by rfl)) (by rfl)) (by rfl)) (by rfl)) (by rfl)))))
    (is_cons (wset 5 sc__law_makers.nd (iv_v (iv_disp (ps := (((mC (.str "task")), (mV (mTup (mCons (mV (mBin opAdd (mBin opAdd (mCallF run__law_made [] 1 (mCons (mV (mC (.bl true))) mNil)) (mVar 0)) (mVar 3))) (mCons (mV (mLst (mCons (mV (mCallF run__law_word [] 2 (mCons (mV (mC (.str "phase"))) (mCons (mV (mVar 4)) mNil)))) (mCons (mV (mTup (mCons (mV (mC (.str "wants"))) (mCons (mV (mTup (mCons (mV (mC (.str "name"))) mNil))) (mCons (mV (mC (.str ""))) (mCons (mV (mC (.bl false))) mNil)))))) mNil)))) mNil))))) :: [])) (pps_cons iv_str (iv_v (iv_tup (ia_cons (iv_v (iv_op opAdd_ok (iv_op opAdd_ok (iv_call (fact_of G__law_made b__law_made rfl) hr hG tk rfl T.g__law_made k__law_made (ia_cons (iv_v iv_bl) ia_nil (by rfl)) (by decide) rfl rfl) (wv 0)) (wv 3))) (ia_cons (iv_v (iv_lst (ia_cons (iv_v (iv_call (fact_of G__law_word b__law_word rfl) hr hG tk rfl T.g__law_word k__law_word (ia_cons (iv_v iv_str) (ia_cons (iv_v (wv 4)) ia_nil (by rfl)) (by rfl)) (by decide) rfl rfl)) (ia_cons (iv_v (iv_tup (ia_cons (iv_v iv_str) (ia_cons (iv_v (iv_tup (ia_cons (iv_v iv_str) ia_nil (by rfl)))) (ia_cons (iv_v iv_str) (ia_cons (iv_v iv_bl) ia_nil (by rfl)) (by rfl)) (by rfl)) (by rfl)))) ia_nil (by rfl)) (by rfl)))) ia_nil (by rfl)) (by rfl)))) pps_nil) (by rfl) (by rfl) (fun z => by cases z) (by decide))))
    (is_cons (is_expr (wm PySem.F.plainAttrs_list PySem.F.slot_list_append PySem.F.type_list_append mg_append (iv_v (iv_ix hT hu (iv_ix hT hu (wv 5) iv_str (fun _ _ => rfl)) iv_int (fun _ _ => rfl))) (ia_cons (iv_v (iv_tup (ia_cons (iv_v iv_str) (ia_cons (iv_v (iv_tup (ia_cons (iv_v iv_str) ia_nil (by rfl)))) (ia_cons (iv_v iv_str) (ia_cons (iv_v iv_bl) ia_nil (by rfl)) (by rfl)) (by rfl)) (by rfl)))) ia_nil (by rfl))) (by rfl))
    (is_cons (wasg (iv_v (iv_tup (ia_cons (iv_v (iv_op opAdd_ok (iv_op opAdd_ok (iv_call (fact_of G__law_made b__law_made rfl) hr hG tk rfl T.g__law_made k__law_made (ia_cons (iv_v iv_bl) ia_nil (by rfl)) (by decide) rfl rfl) (wv 0)) (wv 2))) (ia_cons (iv_v (iv_call (fact_of G__law_counts b__law_counts rfl) hr hG tk rfl T.g__law_counts k__law_counts (ia_cons (iv_v (iv_lst (ia_cons (iv_v iv_str) (ia_cons (iv_v iv_str) (ia_cons (iv_v iv_str) ia_nil (by rfl)) (by rfl)) (by rfl)))) ia_nil (by rfl)) (by decide) rfl rfl)) ia_nil (by rfl)) (by rfl)))) (ig_sub hu1 (iv_v (wv 5)) (iv_v iv_str) (by intro _; rfl)) nx_sub)
    (is_cons (wset 6 sc__law_makers.nd (iv_v (iv_lst (ia_cons (iv_v (iv_call (fact_of G__law_number b__law_number rfl) hr hG tk rfl T.g__law_number k__law_number (ia_cons (iv_v iv_str) (ia_cons (iv_v iv_int) (ia_cons (iv_v iv_int) (ia_cons (iv_v iv_int) ia_nil (by rfl)) (by rfl)) (by rfl)) (by rfl)) (by decide) rfl rfl)) (ia_cons (iv_v (iv_call (fact_of G__law_number b__law_number rfl) hr hG tk rfl T.g__law_number k__law_number (ia_cons (iv_v iv_str) (ia_cons (iv_v iv_int) (ia_cons (iv_v iv_int) (ia_cons (iv_v iv_int) ia_nil (by rfl)) (by rfl)) (by rfl)) (by rfl)) (by decide) rfl rfl)) ia_nil (by rfl)) (by rfl)))))
    (is_cons (wset 7 sc__law_makers.nd (iv_v (iv_lst (ia_cons (iv_v (iv_call (fact_of G__law_word b__law_word rfl) hr hG tk rfl T.g__law_word k__law_word (ia_cons (iv_v iv_str) (ia_cons (iv_v (iv_tup (ia_cons (iv_v iv_str) (ia_cons (iv_v iv_str) ia_nil (by rfl)) (by rfl)))) ia_nil (by rfl)) (by rfl)) (by decide) rfl rfl)) ia_nil (by rfl)))))
    (is_cons (wasg (iv_v (iv_tup (ia_cons (iv_v (iv_op opAdd_ok (iv_op opAdd_ok (iv_op opAdd_ok (iv_call (fact_of G__law_made b__law_made rfl) hr hG tk rfl T.g__law_made k__law_made (ia_cons (iv_v iv_bl) ia_nil (by rfl)) (by decide) rfl rfl) (wv 1)) (wv 2)) (wv 6))) (ia_cons (iv_v (iv_op opAdd_ok (iv_call (fact_of G__law_counts b__law_counts rfl) hr hG tk rfl T.g__law_counts k__law_counts (ia_cons (iv_v (iv_lst (ia_cons (iv_v iv_str) (ia_cons (iv_v iv_str) ia_nil (by rfl)) (by rfl)))) ia_nil (by rfl)) (by decide) rfl rfl) (wv 7))) ia_nil (by rfl)) (by rfl)))) (ig_sub hu1 (iv_v (wv 5)) (iv_v iv_str) (by intro _; rfl)) nx_sub)
    (is_cons (wset 8 sc__law_makers.nd (iv_v (iv_lst (ia_cons (iv_v (iv_tup (ia_cons (iv_v iv_str) (ia_cons (iv_v (iv_tup (ia_cons (iv_v iv_str) (ia_cons (iv_v iv_int) (ia_cons (iv_v iv_int) ia_nil (by rfl)) (by rfl)) (by rfl)))) (ia_cons (iv_v iv_int) (ia_cons (iv_v iv_bl) ia_nil (by rfl)) (by rfl)) (by rfl)) (by rfl)))) (ia_cons (iv_v (iv_tup (ia_cons (iv_v iv_str) (ia_cons (iv_v (iv_tup (ia_cons (iv_v iv_str) (ia_cons (iv_v iv_int) (ia_cons (iv_v iv_int) ia_nil (by rfl)) (by rfl)) (by rfl)))) (ia_cons (iv_v iv_int) (ia_cons (iv_v iv_bl) ia_nil (by rfl)) (by rfl)) (by rfl)) (by rfl)))) ia_nil (by rfl)) (by rfl)))))
    (is_cons (is_expr (wm PySem.F.plainAttrs_list PySem.F.slot_list_append PySem.F.type_list_append mg_append (iv_v (wv 8)) (ia_cons (iv_v (iv_tup (ia_cons (iv_v iv_str) (ia_cons (iv_v (iv_tup (ia_cons (iv_v iv_str) (ia_cons (iv_v iv_int) (ia_cons (iv_v iv_int) ia_nil (by rfl)) (by rfl)) (by rfl)))) (ia_cons (iv_v iv_int) (ia_cons (iv_v iv_bl) ia_nil (by rfl)) (by rfl)) (by rfl)) (by rfl)))) ia_nil (by rfl))) (by rfl))
    (is_cons (wset 7 sc__law_makers.nd (iv_v (iv_lst (ia_cons (iv_v (iv_call (fact_of G__law_word b__law_word rfl) hr hG tk rfl T.g__law_word k__law_word (ia_cons (iv_v iv_str) (ia_cons (iv_v (iv_tup (ia_cons (iv_v iv_str) (ia_cons (iv_v iv_str) (ia_cons (iv_v iv_str) ia_nil (by rfl)) (by rfl)) (by rfl)))) ia_nil (by rfl)) (by rfl)) (by decide) rfl rfl)) ia_nil (by rfl)))))
    (is_cons (wasg (iv_v (iv_tup (ia_cons (iv_v (iv_op opAdd_ok (iv_call (fact_of G__law_made b__law_made rfl) hr hG tk rfl T.g__law_made k__law_made (ia_cons (iv_v iv_bl) ia_nil (by rfl)) (by decide) rfl rfl) (wv 8))) (ia_cons (iv_v (iv_op opAdd_ok (iv_call (fact_of G__law_counts b__law_counts rfl) hr hG tk rfl T.g__law_counts k__law_counts (ia_cons (iv_v (iv_lst (ia_cons (iv_v iv_str) (ia_cons (iv_v iv_str) ia_nil (by rfl)) (by rfl)))) ia_nil (by rfl)) (by decide) rfl rfl) (wv 7))) ia_nil (by rfl)) (by rfl)))) (ig_sub hu1 (iv_v (wv 5)) (iv_v iv_str) (by intro _; rfl)) nx_sub)
    (is_cons (wasg (iv_v (iv_tup (ia_cons (iv_v (iv_op opAdd_ok (iv_call (fact_of G__law_made b__law_made rfl) hr hG tk rfl T.g__law_made k__law_made (ia_cons (iv_v iv_bl) ia_nil (by rfl)) (by decide) rfl rfl) (wv 0))) (ia_cons (iv_v (iv_call (fact_of G__law_counts b__law_counts rfl) hr hG tk rfl T.g__law_counts k__law_counts (ia_cons (iv_v (iv_lst (ia_cons (iv_v iv_str) (ia_cons (iv_v iv_str) ia_nil (by rfl)) (by rfl)))) ia_nil (by rfl)) (by decide) rfl rfl)) ia_nil (by rfl)) (by rfl)))) (ig_sub hu1 (iv_v (wv 5)) (iv_v iv_str) (by intro _; rfl)) nx_sub)
    (is_cons (is_ret (wv 5))
    is_nil)))))))))))))))))
def m__law_others : DSt :=
    (mSeq (mSet 0 (mV (mLst (mCons (mV (mTup (mCons (mV (mC (.str "match"))) (mCons (mV (mTup (mCons (mV (mC (.str "selector"))) mNil))) (mCons (mV (mC (.str ""))) (mCons (mV (mC (.bl false))) mNil)))))) mNil))))
    (mSeq (mSet 1 (mV (mDisp (((mC (.str "budget")), (mV (mTup (mCons (mV (mBin opAdd (mVar 0) (mLst (mCons (mV (mCallF run__law_number [] 4 (mCons (mV (mC (.str "least"))) (mCons (mV (mC (.int 0))) (mCons (mV (mC (.int 12))) (mCons (mV (mC (.int 0))) mNil)))))) mNil)))) (mCons (mV (mLst mNil)) mNil))))) :: []))))
    (mSeq (mSet 2 (mV (mLst (mCons (mV (mCallF run__law_number [] 4 (mCons (mV (mC (.str "most"))) (mCons (mV (mC (.int 0))) (mCons (mV (mC (.int 40))) (mCons (mV (mC (.int 40))) mNil)))))) (mCons (mV (mCallF run__law_number [] 4 (mCons (mV (mC (.str "cpu"))) (mCons (mV (mC (.int 0))) (mCons (mV (mC (.int 999))) (mCons (mV (mC (.int 999))) mNil)))))) mNil)))))
    (mSeq (mAsg (mV (mTup (mCons (mV (mBin opAdd (mLst (mCons (mV (mTup (mCons (mV (mC (.str "of"))) (mCons (mV (mTup (mCons (mV (mC (.str "name"))) mNil))) (mCons (mV (mC (.str "task"))) (mCons (mV (mC (.bl false))) mNil)))))) mNil)) (mVar 2))) (mCons (mV (mLst mNil)) mNil)))) (gSubM (mV (mVar 1)) (mV (mC (.str "quota")))))
    (mSeq (mSet 3 (mV (mLst (mCons (mV (mTup (mCons (mV (mC (.str "kind"))) (mCons (mV (mTup (mCons (mV (mC (.str "word"))) (mCons (mV (mTup (mCons (mV (mC (.str "set"))) (mCons (mV (mC (.str "rollout"))) mNil)))) mNil)))) (mCons (mV (mC (.str "rollout"))) (mCons (mV (mC (.bl false))) mNil)))))) (mCons (mV (mTup (mCons (mV (mC (.str "target"))) (mCons (mV (mTup (mCons (mV (mC (.str "name"))) mNil))) (mCons (mV (mC (.str ""))) (mCons (mV (mC (.bl false))) mNil)))))) mNil)))))
    (mSeq (mSet 3 (mV (mBin opAdd (mVar 3) (mLst (mCons (mV (mCallF run__law_number [] 4 (mCons (mV (mC (.str "low"))) (mCons (mV (mC (.int 0))) (mCons (mV (mC (.int 12))) (mCons (mV (mC (.int 1))) mNil)))))) (mCons (mV (mCallF run__law_number [] 4 (mCons (mV (mC (.str "high"))) (mCons (mV (mC (.int 0))) (mCons (mV (mC (.int 12))) (mCons (mV (mC (.int 12))) mNil)))))) (mCons (mV (mCallF run__law_number [] 4 (mCons (mV (mC (.str "aim"))) (mCons (mV (mC (.int 1))) (mCons (mV (mC (.int 100))) (mCons (mV (mC (.int 50))) mNil)))))) mNil)))))))
    (mSeq (mAsg (mV (mTup (mCons (mV (mVar 3)) (mCons (mV (mLst (mCons (mV (mCallF run__law_number [] 4 (mCons (mV (mC (.str "load"))) (mCons (mV (mC (.int 0))) (mCons (mV (mC (.int 9999))) (mCons (mV (mC (.int 0))) mNil)))))) mNil))) mNil)))) (gSubM (mV (mVar 1)) (mV (mC (.str "scaler")))))
    (mSeq (mAsg (mV (mTup (mCons (mV (mVar 0)) (mCons (mV (mLst (mCons (mV (mTup (mCons (mV (mC (.str "ready"))) (mCons (mV (mTup (mCons (mV (mC (.str "text"))) mNil))) (mCons (mV (mC (.str ""))) (mCons (mV (mC (.bl false))) mNil)))))) mNil))) mNil)))) (gSubM (mV (mVar 1)) (mV (mC (.str "points")))))
    (mSeq (mSet 4 (mV (mLst (mCons (mV (mCallF run__law_number [] 4 (mCons (mV (mC (.str "cpu"))) (mCons (mV (mC (.int 0))) (mCons (mV (mC (.int 64))) (mCons (mV (mC (.int 0))) mNil)))))) (mCons (mV (mCallF run__law_number [] 4 (mCons (mV (mC (.str "mem"))) (mCons (mV (mC (.int 0))) (mCons (mV (mC (.int 64))) (mCons (mV (mC (.int 0))) mNil)))))) mNil)))))
    (mSeq (mAsg (mV (mTup (mCons (mV (mVar 4)) (mCons (mV (mLst (mCons (mV (mCallF run__law_number [] 4 (mCons (mV (mC (.str "seen"))) (mCons (mV (mC (.int 0))) (mCons (mV (mC (.int 999999))) (mCons (mV (mC (.int 0))) mNil)))))) (mCons (mV (mCallF run__law_word [] 2 (mCons (mV (mC (.str "state"))) (mCons (mV (mTup (mCons (mV (mC (.str "up"))) (mCons (mV (mC (.str "silent"))) mNil)))) mNil)))) mNil)))) mNil)))) (gSubM (mV (mVar 1)) (mV (mC (.str "node")))))
    (mSeq (mSet 5 (mV (mLst (mCons (mV (mTup (mCons (mV (mC (.str "holder"))) (mCons (mV (mTup (mCons (mV (mC (.str "name"))) mNil))) (mCons (mV (mC (.str ""))) (mCons (mV (mC (.bl false))) mNil)))))) (mCons (mV (mCallF run__law_number [] 4 (mCons (mV (mC (.str "renewed"))) (mCons (mV (mC (.int 0))) (mCons (mV (mC (.int 999999))) (mCons (mV (mC (.int 0))) mNil)))))) mNil)))))
    (mSeq (mAsg (mV (mTup (mCons (mV (mBin opAdd (mVar 5) (mLst (mCons (mV (mCallF run__law_number [] 4 (mCons (mV (mC (.str "length"))) (mCons (mV (mC (.int 1))) (mCons (mV (mC (.int 999))) (mCons (mV (mC (.int 10))) mNil)))))) (mCons (mV (mCallF run__law_number [] 4 (mCons (mV (mC (.str "wait"))) (mCons (mV (mC (.int 1))) (mCons (mV (mC (.int 999))) (mCons (mV (mC (.int 20))) mNil)))))) mNil))))) (mCons (mV (mLst mNil)) mNil)))) (gSubM (mV (mVar 1)) (mV (mC (.str "lease")))))
    (mSeq (mRet (mVar 1))
    mPass)))))))))))))
def run__law_others : Run := fnRun N__law_others.length m__law_others
/- _law_others -/
theorem ok__law_others (T : Txt K mg w) (F : FnP K "_law_others" s__law_others [] fd) : FnG P w K mg base (L2N.CX P w) 2 (He.ga K "_law_others") fd ps__law_others (spI K ps__law_others.length run__law_others) := by
  obtain ⟨fd__law_number, F__law_number⟩ := T.d__law_number
  have G__law_number := (ok__law_number (P := P) (w := w) (base := base) T F__law_number)
  have k__law_number := F__law_number.kp
  have b__law_number := bi__law_number F__law_number
  obtain ⟨fd__law_word, F__law_word⟩ := T.d__law_word
  have G__law_word := (ok__law_word (P := P) (w := w) (base := base) T F__law_word)
  have k__law_word := F__law_word.kp
  have b__law_word := bi__law_word F__law_word
  refine okI F sc__law_others fun cdv A outer s H E hr hG tk hp => ?_
  have hu := hu_of hr
  have hu1 := hu1_of hr
  have hu64 := hu64_of hr
  have hT := hTabs T
  have hF := hFld T
  exact (is_cons (wset 0 sc__law_others.nd (iv_v (iv_lst (ia_cons (iv_v (iv_tup (ia_cons (iv_v iv_str) (ia_cons (iv_v (iv_tup (ia_cons (iv_v iv_str) ia_nil (by rfl)))) (ia_cons (iv_v iv_str) (ia_cons (iv_v iv_bl) ia_nil (by rfl)) (by rfl)) (by rfl)) (by rfl)))) ia_nil (by rfl)))))
    (is_cons (wset 1 sc__law_others.nd (iv_v (iv_disp (ps := (((mC (.str "budget")), (mV (mTup (mCons (mV (mBin opAdd (mVar 0) (mLst (mCons (mV (mCallF run__law_number [] 4 (mCons (mV (mC (.str "least"))) (mCons (mV (mC (.int 0))) (mCons (mV (mC (.int 12))) (mCons (mV (mC (.int 0))) mNil)))))) mNil)))) (mCons (mV (mLst mNil)) mNil))))) :: [])) (pps_cons iv_str (iv_v (iv_tup (ia_cons (iv_v (iv_op opAdd_ok (wv 0) (iv_lst (ia_cons (iv_v (iv_call (fact_of G__law_number b__law_number rfl) hr hG tk rfl T.g__law_number k__law_number (ia_cons (iv_v iv_str) (ia_cons (iv_v iv_int) (ia_cons (iv_v iv_int) (ia_cons (iv_v iv_int) ia_nil (by rfl)) (by rfl)) (by rfl)) (by rfl)) (by decide) rfl rfl)) ia_nil (by rfl))))) (ia_cons (iv_v (iv_lst ia_nil)) ia_nil (by rfl)) (by rfl)))) pps_nil) (by rfl) (by rfl) (fun z => by cases z) (by decide))))
    (is_cons (wset 2 sc__law_others.nd (iv_v (iv_lst (ia_cons (iv_v (iv_call (fact_of G__law_number b__law_number rfl) hr hG tk rfl T.g__law_number k__law_number (ia_cons (iv_v iv_str) (ia_cons (iv_v iv_int) (ia_cons (iv_v iv_int) (ia_cons (iv_v iv_int) ia_nil (by rfl)) (by rfl)) (by rfl)) (by rfl)) (by decide) rfl rfl)) (ia_cons (iv_v (iv_call (fact_of G__law_number b__law_number rfl) hr hG tk rfl T.g__law_number k__law_number (ia_cons (iv_v iv_str) (ia_cons (iv_v iv_int) (ia_cons (iv_v iv_int) (ia_cons (iv_v iv_int) ia_nil (by rfl)) (by rfl)) (by rfl)) (by rfl)) (by decide) rfl rfl)) ia_nil (by rfl)) (by rfl)))))
    (is_cons (wasg (iv_v (iv_tup (ia_cons (iv_v (iv_op opAdd_ok (iv_lst (ia_cons (iv_v (iv_tup (ia_cons (iv_v iv_str) (ia_cons (iv_v (iv_tup (ia_cons (iv_v iv_str) ia_nil (by rfl)))) (ia_cons (iv_v iv_str) (ia_cons (iv_v iv_bl) ia_nil (by rfl)) (by rfl)) (by rfl)) (by rfl)))) ia_nil (by rfl))) (wv 2))) (ia_cons (iv_v (iv_lst ia_nil)) ia_nil (by rfl)) (by rfl)))) (ig_sub hu1 (iv_v (wv 1)) (iv_v iv_str) (by intro _; rfl)) nx_sub)
    (is_cons (wset 3 sc__law_others.nd (iv_v (iv_lst (ia_cons (iv_v (iv_tup (ia_cons (iv_v iv_str) (ia_cons (iv_v (iv_tup (ia_cons (iv_v iv_str) (ia_cons (iv_v (iv_tup (ia_cons (iv_v iv_str) (ia_cons (iv_v iv_str) ia_nil (by rfl)) (by rfl)))) ia_nil (by rfl)) (by rfl)))) (ia_cons (iv_v iv_str) (ia_cons (iv_v iv_bl) ia_nil (by rfl)) (by rfl)) (by rfl)) (by rfl)))) (ia_cons (iv_v (iv_tup (ia_cons (iv_v iv_str) (ia_cons (iv_v (iv_tup (ia_cons (iv_v iv_str) ia_nil (by rfl)))) (ia_cons (iv_v iv_str) (ia_cons (iv_v iv_bl) ia_nil (by rfl)) (by rfl)) (by rfl)) (by rfl)))) ia_nil (by rfl)) (by rfl)))))
    (is_cons (wset 3 sc__law_others.nd (iv_v (iv_op opAdd_ok (wv 3) (iv_lst (ia_cons (iv_v (iv_call (fact_of G__law_number b__law_number rfl) hr hG tk rfl T.g__law_number k__law_number (ia_cons (iv_v iv_str) (ia_cons (iv_v iv_int) (ia_cons (iv_v iv_int) (ia_cons (iv_v iv_int) ia_nil (by rfl)) (by rfl)) (by rfl)) (by rfl)) (by decide) rfl rfl)) (ia_cons (iv_v (iv_call (fact_of G__law_number b__law_number rfl) hr hG tk rfl T.g__law_number k__law_number (ia_cons (iv_v iv_str) (ia_cons (iv_v iv_int) (ia_cons (iv_v iv_int) (ia_cons (iv_v iv_int) ia_nil (by rfl)) (by rfl)) (by rfl)) (by rfl)) (by decide) rfl rfl)) (ia_cons (iv_v (iv_call (fact_of G__law_number b__law_number rfl) hr hG tk rfl T.g__law_number k__law_number (ia_cons (iv_v iv_str) (ia_cons (iv_v iv_int) (ia_cons (iv_v iv_int) (ia_cons (iv_v iv_int) ia_nil (by rfl)) (by rfl)) (by rfl)) (by rfl)) (by decide) rfl rfl)) ia_nil (by rfl)) (by rfl)) (by rfl))))))
    (is_cons (wasg (iv_v (iv_tup (ia_cons (iv_v (wv 3)) (ia_cons (iv_v (iv_lst (ia_cons (iv_v (iv_call (fact_of G__law_number b__law_number rfl) hr hG tk rfl T.g__law_number k__law_number (ia_cons (iv_v iv_str) (ia_cons (iv_v iv_int) (ia_cons (iv_v iv_int) (ia_cons (iv_v iv_int) ia_nil (by rfl)) (by rfl)) (by rfl)) (by rfl)) (by decide) rfl rfl)) ia_nil (by rfl)))) ia_nil (by rfl)) (by rfl)))) (ig_sub hu1 (iv_v (wv 1)) (iv_v iv_str) (by intro _; rfl)) nx_sub)
    (is_cons (wasg (iv_v (iv_tup (ia_cons (iv_v (wv 0)) (ia_cons (iv_v (iv_lst (ia_cons (iv_v (iv_tup (ia_cons (iv_v iv_str) (ia_cons (iv_v (iv_tup (ia_cons (iv_v iv_str) ia_nil (by rfl)))) (ia_cons (iv_v iv_str) (ia_cons (iv_v iv_bl) ia_nil (by rfl)) (by rfl)) (by rfl)) (by rfl)))) ia_nil (by rfl)))) ia_nil (by rfl)) (by rfl)))) (ig_sub hu1 (iv_v (wv 1)) (iv_v iv_str) (by intro _; rfl)) nx_sub)
    (is_cons (wset 4 sc__law_others.nd (iv_v (iv_lst (ia_cons (iv_v (iv_call (fact_of G__law_number b__law_number rfl) hr hG tk rfl T.g__law_number k__law_number (ia_cons (iv_v iv_str) (ia_cons (iv_v iv_int) (ia_cons (iv_v iv_int) (ia_cons (iv_v iv_int) ia_nil (by rfl)) (by rfl)) (by rfl)) (by rfl)) (by decide) rfl rfl)) (ia_cons (iv_v (iv_call (fact_of G__law_number b__law_number rfl) hr hG tk rfl T.g__law_number k__law_number (ia_cons (iv_v iv_str) (ia_cons (iv_v iv_int) (ia_cons (iv_v iv_int) (ia_cons (iv_v iv_int) ia_nil (by rfl)) (by rfl)) (by rfl)) (by rfl)) (by decide) rfl rfl)) ia_nil (by rfl)) (by rfl)))))
    (is_cons (wasg (iv_v (iv_tup (ia_cons (iv_v (wv 4)) (ia_cons (iv_v (iv_lst (ia_cons (iv_v (iv_call (fact_of G__law_number b__law_number rfl) hr hG tk rfl T.g__law_number k__law_number (ia_cons (iv_v iv_str) (ia_cons (iv_v iv_int) (ia_cons (iv_v iv_int) (ia_cons (iv_v iv_int) ia_nil (by rfl)) (by rfl)) (by rfl)) (by rfl)) (by decide) rfl rfl)) (ia_cons (iv_v (iv_call (fact_of G__law_word b__law_word rfl) hr hG tk rfl T.g__law_word k__law_word (ia_cons (iv_v iv_str) (ia_cons (iv_v (iv_tup (ia_cons (iv_v iv_str) (ia_cons (iv_v iv_str) ia_nil (by rfl)) (by rfl)))) ia_nil (by rfl)) (by rfl)) (by decide) rfl rfl)) ia_nil (by rfl)) (by rfl)))) ia_nil (by rfl)) (by rfl)))) (ig_sub hu1 (iv_v (wv 1)) (iv_v iv_str) (by intro _; rfl)) nx_sub)
    (is_cons (wset 5 sc__law_others.nd (iv_v (iv_lst (ia_cons (iv_v (iv_tup (ia_cons (iv_v iv_str) (ia_cons (iv_v (iv_tup (ia_cons (iv_v iv_str) ia_nil (by rfl)))) (ia_cons (iv_v iv_str) (ia_cons (iv_v iv_bl) ia_nil (by rfl)) (by rfl)) (by rfl)) (by rfl)))) (ia_cons (iv_v (iv_call (fact_of G__law_number b__law_number rfl) hr hG tk rfl T.g__law_number k__law_number (ia_cons (iv_v iv_str) (ia_cons (iv_v iv_int) (ia_cons (iv_v iv_int) (ia_cons (iv_v iv_int) ia_nil (by rfl)) (by rfl)) (by rfl)) (by rfl)) (by decide) rfl rfl)) ia_nil (by rfl)) (by rfl)))))
    (is_cons (wasg (iv_v (iv_tup (ia_cons (iv_v (iv_op opAdd_ok (wv 5) (iv_lst (ia_cons (iv_v (iv_call (fact_of G__law_number b__law_number rfl) hr hG tk rfl T.g__law_number k__law_number (ia_cons (iv_v iv_str) (ia_cons (iv_v iv_int) (ia_cons (iv_v iv_int) (ia_cons (iv_v iv_int) ia_nil (by rfl)) (by rfl)) (by rfl)) (by rfl)) (by decide) rfl rfl)) (ia_cons (iv_v (iv_call (fact_of G__law_number b__law_number rfl) hr hG tk rfl T.g__law_number k__law_number (ia_cons (iv_v iv_str) (ia_cons (iv_v iv_int) (ia_cons (iv_v iv_int) (ia_cons (iv_v iv_int) ia_nil (by rfl)) (by rfl)) (by rfl)) (by rfl)) (by decide) rfl rfl)) ia_nil (by rfl)) (by rfl))))) (ia_cons (iv_v (iv_lst ia_nil)) ia_nil (by rfl)) (by rfl)))) (ig_sub hu1 (iv_v (wv 1)) (iv_v iv_str) (by intro _; rfl)) nx_sub)
    (is_cons (is_ret (wv 1))
    is_nil)))))))))))))
def m_Kinds_check_kind : DSt :=
    (mSeq (mIfS (mOrT (mNotT (mTru (mBlt bIsi (mConsR (mVar 1) (mConsR (mC (.ty "str")) mNilR))))) (mCmpT (opCmp .NotIn) (mVar 1) (mFld fld "rows" (mVar 0)))) (mSeq (mRaise "BadKind" 1 rs_BadKind (mCons (mV (mVar 1)) mNil))
      mPass) mPass)
    mPass)
def run_Kinds_check_kind : Run := fnRun N_Kinds_check_kind.length m_Kinds_check_kind
/- Kinds_check_kind -/
theorem ok_Kinds_check_kind (T : Txt K mg w) (F : FunD K "check_kind" "Kinds.check_kind" (defArgs s_Kinds_check_kind) (defBody s_Kinds_check_kind) (defScope s_Kinds_check_kind) [] [] (He.fAd K ("Kinds", some "check_kind")) fd) : FnG P w K mg base (L2N.CX P w) 4 (He.fAd K ("Kinds", some "check_kind")) fd ps_Kinds_check_kind (spI K ps_Kinds_check_kind.length run_Kinds_check_kind) := by
  refine okI F sc_Kinds_check_kind fun cdv A outer s H E hr hG tk hp => ?_
  have hu := hu_of hr
  have hu1 := hu1_of hr
  have hu64 := hu64_of hr
  have hT := hTabs T
  have hF := hFld T
  have hr2 := hr.mono (j := 3) (by first | decide | omega)
  exact (is_cons (is_if (PW.pt (iv_orT (iv_notT (iv_tru (wb cb_isi T.n_isinstance (by decide +kernel) (ir_cons (wv 1) (ir_cons (wty (by decide +kernel) T.n_str) ir_nil (by rfl)) (by rfl))) (by intro _; rfl))) (iv_or1 (iv_cmpT (op := .NotIn) hu (wv 1) (iv_fld hF (wv 0) rfl) (by rfl))))) (is_cons (is_raise rfl tk (RO_BadKind T hr2 rfl) (ia_cons (iv_v (wv 1)) ia_nil (by rfl)) rfl rfl)
      is_nil) is_nil)
    is_nil)
abbrev meth_check_kind_1 : Str → Option (Run × List DV) := (fun c => if c = "Kinds" then some (run_Kinds_check_kind, []) else (fun _ => none) c)
def m_Kinds_table_of : DSt :=
    (mSeq (mExpr (mMeth meth_check_kind_1 "check_kind" 1 (mV (mVar 0)) (mCons (mV (mVar 1)) mNil)))
    (mSeq (mIfS (mNotT (mTru (mBlt bIsi (mConsR (mVar 2) (mConsR (mC (.ty "dict")) mNilR))))) (mSeq (mRaise "BadField" 1 rs_BadField (mCons (mV (mC .non)) mNil))
      mPass) mPass)
    (mSeq (mRet (mBin (opIx tabs) (mBin (opIx tabs) (mFld fld "rows" (mVar 0)) (mVar 1)) (mVar 3)))
    mPass)))
def run_Kinds_table_of : Run := fnRun N_Kinds_table_of.length m_Kinds_table_of
/- Kinds_table_of -/
theorem ok_Kinds_table_of (T : Txt K mg w) (F : FunD K "table_of" "Kinds.table_of" (defArgs s_Kinds_table_of) (defBody s_Kinds_table_of) (defScope s_Kinds_table_of) [] [] (He.fAd K ("Kinds", some "table_of")) fd) : FnG P w K mg base (L2N.CX P w) 5 (He.fAd K ("Kinds", some "table_of")) fd ps_Kinds_table_of (spI K ps_Kinds_table_of.length run_Kinds_table_of) := by
  obtain ⟨fd_Kinds_check_kind, F_Kinds_check_kind⟩ := T.d_Kinds_check_kind
  have G_Kinds_check_kind := (ok_Kinds_check_kind (P := P) (w := w) (base := base) T F_Kinds_check_kind)
  have k_Kinds_check_kind := F_Kinds_check_kind.kp
  have b_Kinds_check_kind := bi_Kinds_check_kind F_Kinds_check_kind
  refine okI F sc_Kinds_table_of fun cdv A outer s H E hr hG tk hp => ?_
  have hu := hu_of hr
  have hu1 := hu1_of hr
  have hu64 := hu64_of hr
  have hT := hTabs T
  have hF := hFld T
  have hr2 := hr.mono (j := 3) (by first | decide | omega)
  exact (is_cons (is_expr (iv_meth (mo_cons T.cl_Kinds T.m_Kinds_check_kind (fact_of G_Kinds_check_kind b_Kinds_check_kind rfl) mo_nil) hr hG tk (iv_v (wv 0)) (ia_cons (iv_v (wv 1)) ia_nil (by rfl)) (by rfl) (by rfl) (by rfl)) (by rfl))
    (is_cons (is_if (iv_notT (iv_tru (wb cb_isi T.n_isinstance (by decide +kernel) (ir_cons (wv 2) (ir_cons (wty (by decide +kernel) T.n_dict) ir_nil (by rfl)) (by rfl))) (by intro _; rfl))) (is_cons (is_raise rfl tk (RO_BadField T hr2 rfl) (ia_cons (iv_v iv_non) ia_nil (by rfl)) rfl rfl)
      is_nil) is_nil)
    (is_cons (is_ret (iv_ix hT hu (iv_ix hT hu (iv_fld hF (wv 0) rfl) (wv 1) (fun _ _ => rfl)) (wv 3) (fun _ _ => rfl)))
    is_nil)))
abbrev meth_table_of_3 : Str → Option (Run × List DV) := (fun c => if c = "Kinds" then some (run_Kinds_table_of, []) else (fun _ => none) c)
def m_Kinds_filled : DSt :=
    (mSeq (mSet 3 (mV (mMeth meth_table_of_3 "table_of" 3 (mV (mVar 0)) (mCons (mV (mVar 1)) (mCons (mV (mVar 2)) (mCons (mV (mC (.int 0))) mNil))))))
    (mSeq (mLockS (mV (mVar 3)) (mSet 4 (mV (mDc (mIterD 2 (mV (mVar 3))) (.tp ((.nm 5) :: ((.nm 6) :: []))) (mCmpT (opCmp .IsNot) (mBin (opIx tabs) (mVar 6) (mC (.int 2))) (mC .non)) (mV (mVar 5)) (mV (mBin (opIx tabs) (mVar 6) (mC (.int 2)))) [5, 6]))))
    (mSeq (mExpr (mUpd (mV (mVar 4)) (mVar 2)))
    (mSeq (mRet (mVar 4))
    mPass))))
def run_Kinds_filled : Run := fnRun N_Kinds_filled.length m_Kinds_filled
/- Kinds_filled -/
theorem ok_Kinds_filled (T : Txt K mg w) (F : FunD K "filled" "Kinds.filled" (defArgs s_Kinds_filled) (defBody s_Kinds_filled) (defScope s_Kinds_filled) [] [] (He.fAd K ("Kinds", some "filled")) fd) : FnG P w K mg base (L2N.CX P w) 6 (He.fAd K ("Kinds", some "filled")) fd ps_Kinds_filled (spI K ps_Kinds_filled.length run_Kinds_filled) := by
  obtain ⟨fd_Kinds_table_of, F_Kinds_table_of⟩ := T.d_Kinds_table_of
  have G_Kinds_table_of := (ok_Kinds_table_of (P := P) (w := w) (base := base) T F_Kinds_table_of)
  have k_Kinds_table_of := F_Kinds_table_of.kp
  have b_Kinds_table_of := bi_Kinds_table_of F_Kinds_table_of
  refine okI F sc_Kinds_filled fun cdv A outer s H E hr hG tk hp => ?_
  have hu := hu_of hr
  have hu1 := hu1_of hr
  have hu64 := hu64_of hr
  have hT := hTabs T
  have hF := hFld T
  exact (is_cons (wset 3 sc_Kinds_filled.nd (iv_v (iv_meth (mo_cons T.cl_Kinds T.m_Kinds_table_of (fact_of G_Kinds_table_of b_Kinds_table_of rfl) mo_nil) hr hG tk (iv_v (wv 0)) (ia_cons (iv_v (wv 1)) (ia_cons (iv_v (wv 2)) (ia_cons (iv_v iv_int) ia_nil (by rfl)) (by rfl)) (by rfl)) (by rfl) (by rfl) (by rfl))))
    (is_cons (is_lock (md := (mV (mVar 3))) (is_setDc (i := 4) (own := [("name", 5), ("row", 6)]) rfl sc_Kinds_filled.nd rfl rfl (sw_trueD rfl rfl rfl (by decide +kernel)) (ii_items (iv_v (wv 3)) (pi_items (iv_v (wv 3)))) (blkOk_by (own := [("name", 5), ("row", 6)]) (by kernel_rfl)) (fun _ _ _ _ _ => (gn_tup rfl (gn_cons (gnm 5 sc_Kinds_filled.nd) (gn_cons (gnm 6 sc_Kinds_filled.nd) gn_nil (by rfl)) (by rfl)) rfl (by rfl) (by rfl))) (fun _ _ _ _ _ => (its_one (iv_cmpT (op := .IsNot) hu (iv_ix hT hu (wv 6) iv_int (fun _ _ => rfl)) iv_non (by rfl)))) (fun _ _ _ _ _ => (iv_v (wv 5))) (fun _ _ _ _ _ => (iv_v (iv_ix hT hu (wv 6) iv_int (fun _ _ => rfl)))) (fun _ => rfl)))
    (is_cons (is_expr (iv_upd (iv_v (wv 4)) (wv 2) ⟨rfl, rfl, rfl, rfl⟩) (by rfl))
    (is_cons (is_ret (wv 4))
    is_nil))))
abbrev meth_filled_2 : Str → Option (Run × List DV) := (fun c => if c = "Kinds" then some (run_Kinds_filled, []) else (fun _ => none) c)
def m_Kinds_check : DSt :=
    (mSeq (mSet 3 (mV (mMeth meth_table_of_3 "table_of" 3 (mV (mVar 0)) (mCons (mV (mVar 1)) (mCons (mV (mVar 2)) (mCons (mV (mC (.int 0))) mNil))))))
    (mSeq (mLockS (mV (mVar 3)) (mSet 4 (mV (mLc (mIterD 2 (mV (mVar 3))) (.tp ((.nm 6) :: ((.nm 7) :: []))) (mAndT (mCmpT (opCmp .Is) (mBin (opIx tabs) (mVar 7) (mC (.int 2))) (mC .non)) (mCmpT (opCmp .NotIn) (mVar 6) (mVar 2))) (mV (mVar 6)) [6, 7]))))
    (mSeq (mExpr (mCallF run_check_given [] 3 (mCons (mV (mVar 3)) (mCons (mV (mVar 2)) (mCons (mV (mBin opAdd (mBlt bList (mConsR (mVar 2) mNilR)) (mVar 4))) mNil)))))
    (mSeq (mSet 5 (mV (mMeth meth_filled_2 "filled" 2 (mV (mVar 0)) (mCons (mV (mVar 1)) (mCons (mV (mVar 2)) mNil)))))
    (mSeq (mIfS (mAndT (mCmpT (opCmpX .Eq) (mVar 1) (mC (.str "rollout"))) (mAndT (mCmpT (opCmpX .Eq) (mBin (opIx tabs) (mVar 5) (mC (.str "surge"))) (mC (.int 0))) (mCmpT (opCmpX .Eq) (mBin (opIx tabs) (mVar 5) (mC (.str "down"))) (mC (.int 0))))) (mSeq (mRaise "BadField" 1 rs_BadField (mCons (mV (mC (.str "surge"))) mNil))
      mPass) mPass)
    (mSeq (mIfS (mAndT (mCmpT (opCmpX .Eq) (mVar 1) (mC (.str "scaler"))) (mCmpT (opCmp .Gt) (mBin (opIx tabs) (mVar 5) (mC (.str "low"))) (mBin (opIx tabs) (mVar 5) (mC (.str "high"))))) (mSeq (mRaise "BadField" 1 rs_BadField (mCons (mV (mC (.str "high"))) mNil))
      mPass) mPass)
    mPass))))))
def run_Kinds_check : Run := fnRun N_Kinds_check.length m_Kinds_check
/- Kinds_check -/
theorem ok_Kinds_check (T : Txt K mg w) (F : FunD K "check" "Kinds.check" (defArgs s_Kinds_check) (defBody s_Kinds_check) (defScope s_Kinds_check) [] [] (He.fAd K ("Kinds", some "check")) fd) : FnG P w K mg base (L2N.CX P w) 17 (He.fAd K ("Kinds", some "check")) fd ps_Kinds_check (spI K ps_Kinds_check.length run_Kinds_check) := by
  obtain ⟨fd_Kinds_filled, F_Kinds_filled⟩ := T.d_Kinds_filled
  have G_Kinds_filled := (ok_Kinds_filled (P := P) (w := w) (base := base) T F_Kinds_filled)
  have G_Kinds_filled := FnG.mono (k := 16) G_Kinds_filled (by decide)
  have k_Kinds_filled := F_Kinds_filled.kp
  have b_Kinds_filled := bi_Kinds_filled F_Kinds_filled
  obtain ⟨fd_Kinds_table_of, F_Kinds_table_of⟩ := T.d_Kinds_table_of
  have G_Kinds_table_of := (ok_Kinds_table_of (P := P) (w := w) (base := base) T F_Kinds_table_of)
  have G_Kinds_table_of := FnG.mono (k := 16) G_Kinds_table_of (by decide)
  have k_Kinds_table_of := F_Kinds_table_of.kp
  have b_Kinds_table_of := bi_Kinds_table_of F_Kinds_table_of
  obtain ⟨fd_check_given, F_check_given⟩ := T.d_check_given
  have G_check_given := (ok_check_given (P := P) (w := w) (base := base) T F_check_given)
  have k_check_given := F_check_given.kp
  have b_check_given := bi_check_given F_check_given
  refine okI F sc_Kinds_check fun cdv A outer s H E hr hG tk hp => ?_
  have hu := hu_of hr
  have hu1 := hu1_of hr
  have hu64 := hu64_of hr
  have hT := hTabs T
  have hF := hFld T
  have hr2 := hr.mono (j := 3) (by first | decide | omega)
  exact (is_cons (wset 3 sc_Kinds_check.nd (iv_v (iv_meth (mo_cons T.cl_Kinds T.m_Kinds_table_of (fact_of G_Kinds_table_of b_Kinds_table_of rfl) mo_nil) hr hG tk (iv_v (wv 0)) (ia_cons (iv_v (wv 1)) (ia_cons (iv_v (wv 2)) (ia_cons (iv_v iv_int) ia_nil (by rfl)) (by rfl)) (by rfl)) (by rfl) (by rfl) (by rfl))))
    (is_cons (is_lock (md := (mV (mVar 3))) (is_setLc (i := 4) (own := [("name", 6), ("row", 7)]) rfl sc_Kinds_check.nd rfl rfl (sw_true rfl rfl rfl (by decide +kernel)) (ii_items (iv_v (wv 3)) (pi_items (iv_v (wv 3)))) (blkOk_by (own := [("name", 6), ("row", 7)]) (by kernel_rfl)) (fun _ _ _ _ _ => (gn_tup rfl (gn_cons (gnm 6 sc_Kinds_check.nd) (gn_cons (gnm 7 sc_Kinds_check.nd) gn_nil (by rfl)) (by rfl)) rfl (by rfl) (by rfl))) (fun _ _ _ _ _ => (its_one (PW.pt (iv_andT (iv_cmpT (op := .Is) hu (iv_ix hT hu (wv 7) iv_int (fun _ _ => rfl)) iv_non (by rfl)) (iv_and1 (iv_cmpT (op := .NotIn) hu (wv 6) (wv 2) (by rfl))))))) (fun _ _ _ _ _ => (iv_v (wv 6))) (fun _ => rfl)))
    (is_cons (is_expr (iv_call (fact_of G_check_given b_check_given rfl) hr hG tk rfl T.g_check_given k_check_given (ia_cons (iv_v (wv 3)) (ia_cons (iv_v (wv 2)) (ia_cons (iv_v (iv_op opAdd_ok (wt (cb_list rfl) T.n_list (by decide +kernel) (ir_cons (wv 2) ir_nil (by rfl))) (wv 4))) ia_nil (by rfl)) (by rfl)) (by rfl)) (by decide) rfl rfl) (by rfl))
    (is_cons (wset 5 sc_Kinds_check.nd (iv_v (iv_meth (mo_cons T.cl_Kinds T.m_Kinds_filled (fact_of G_Kinds_filled b_Kinds_filled rfl) mo_nil) hr hG tk (iv_v (wv 0)) (ia_cons (iv_v (wv 1)) (ia_cons (iv_v (wv 2)) ia_nil (by rfl)) (by rfl)) (by rfl) (by rfl) (by rfl))))
    (is_cons (is_if (PW.pt (iv_andT (iv_cmpXT (op := .Eq) hu (wv 1) iv_str (by rfl)) (iv_andT (iv_cmpXT (op := .Eq) hu (iv_ix hT hu (wv 5) iv_str (fun _ _ => rfl)) iv_int (by rfl)) (iv_and1 (iv_cmpXT (op := .Eq) hu (iv_ix hT hu (wv 5) iv_str (fun _ _ => rfl)) iv_int (by rfl)))))) (is_cons (is_raise rfl tk (RO_BadField T hr2 rfl) (ia_cons (iv_v iv_str) ia_nil (by rfl)) rfl rfl)
      is_nil) is_nil)
    (is_cons (is_if (PW.pt (iv_andT (iv_cmpXT (op := .Eq) hu (wv 1) iv_str (by rfl)) (iv_and1 (iv_cmpT (op := .Gt) hu (iv_ix hT hu (wv 5) iv_str (fun _ _ => rfl)) (iv_ix hT hu (wv 5) iv_str (fun _ _ => rfl)) (by rfl))))) (is_cons (is_raise rfl tk (RO_BadField T hr2 rfl) (ia_cons (iv_v iv_str) ia_nil (by rfl)) rfl rfl)
      is_nil) is_nil)
    is_nil))))))
def m_Kinds_check_some : DSt :=
    (mSeq (mSet 3 (mV (mMeth meth_table_of_3 "table_of" 3 (mV (mVar 0)) (mCons (mV (mVar 1)) (mCons (mV (mVar 2)) (mCons (mV (mC (.int 0))) mNil))))))
    (mSeq (mExpr (mCallF run_check_given [] 3 (mCons (mV (mVar 3)) (mCons (mV (mVar 2)) (mCons (mV (mBlt bList (mConsR (mVar 2) mNilR))) mNil)))))
    mPass))
def run_Kinds_check_some : Run := fnRun N_Kinds_check_some.length m_Kinds_check_some
/- Kinds_check_some -/
theorem ok_Kinds_check_some (T : Txt K mg w) (F : FunD K "check_some" "Kinds.check_some" (defArgs s_Kinds_check_some) (defBody s_Kinds_check_some) (defScope s_Kinds_check_some) [] [] (He.fAd K ("Kinds", some "check_some")) fd) : FnG P w K mg base (L2N.CX P w) 17 (He.fAd K ("Kinds", some "check_some")) fd ps_Kinds_check_some (spI K ps_Kinds_check_some.length run_Kinds_check_some) := by
  obtain ⟨fd_Kinds_table_of, F_Kinds_table_of⟩ := T.d_Kinds_table_of
  have G_Kinds_table_of := (ok_Kinds_table_of (P := P) (w := w) (base := base) T F_Kinds_table_of)
  have G_Kinds_table_of := FnG.mono (k := 16) G_Kinds_table_of (by decide)
  have k_Kinds_table_of := F_Kinds_table_of.kp
  have b_Kinds_table_of := bi_Kinds_table_of F_Kinds_table_of
  obtain ⟨fd_check_given, F_check_given⟩ := T.d_check_given
  have G_check_given := (ok_check_given (P := P) (w := w) (base := base) T F_check_given)
  have k_check_given := F_check_given.kp
  have b_check_given := bi_check_given F_check_given
  refine okI F sc_Kinds_check_some fun cdv A outer s H E hr hG tk hp => ?_
  have hu := hu_of hr
  have hu1 := hu1_of hr
  have hu64 := hu64_of hr
  have hT := hTabs T
  have hF := hFld T
  exact (is_cons (wset 3 sc_Kinds_check_some.nd (iv_v (iv_meth (mo_cons T.cl_Kinds T.m_Kinds_table_of (fact_of G_Kinds_table_of b_Kinds_table_of rfl) mo_nil) hr hG tk (iv_v (wv 0)) (ia_cons (iv_v (wv 1)) (ia_cons (iv_v (wv 2)) (ia_cons (iv_v iv_int) ia_nil (by rfl)) (by rfl)) (by rfl)) (by rfl) (by rfl) (by rfl))))
    (is_cons (is_expr (iv_call (fact_of G_check_given b_check_given rfl) hr hG tk rfl T.g_check_given k_check_given (ia_cons (iv_v (wv 3)) (ia_cons (iv_v (wv 2)) (ia_cons (iv_v (wt (cb_list rfl) T.n_list (by decide +kernel) (ir_cons (wv 2) ir_nil (by rfl)))) ia_nil (by rfl)) (by rfl)) (by rfl)) (by decide) rfl rfl) (by rfl))
    is_nil))
def m_Kinds_check_status : DSt :=
    (mSeq (mSet 3 (mV (mMeth meth_table_of_3 "table_of" 3 (mV (mVar 0)) (mCons (mV (mVar 1)) (mCons (mV (mVar 2)) (mCons (mV (mC (.int 1))) mNil))))))
    (mSeq (mExpr (mCallF run_check_given [] 3 (mCons (mV (mVar 3)) (mCons (mV (mVar 2)) (mCons (mV (mBlt bList (mConsR (mVar 2) mNilR))) mNil)))))
    mPass))
def run_Kinds_check_status : Run := fnRun N_Kinds_check_status.length m_Kinds_check_status
/- Kinds_check_status -/
theorem ok_Kinds_check_status (T : Txt K mg w) (F : FunD K "check_status" "Kinds.check_status" (defArgs s_Kinds_check_status) (defBody s_Kinds_check_status) (defScope s_Kinds_check_status) [] [] (He.fAd K ("Kinds", some "check_status")) fd) : FnG P w K mg base (L2N.CX P w) 17 (He.fAd K ("Kinds", some "check_status")) fd ps_Kinds_check_status (spI K ps_Kinds_check_status.length run_Kinds_check_status) := by
  obtain ⟨fd_Kinds_table_of, F_Kinds_table_of⟩ := T.d_Kinds_table_of
  have G_Kinds_table_of := (ok_Kinds_table_of (P := P) (w := w) (base := base) T F_Kinds_table_of)
  have G_Kinds_table_of := FnG.mono (k := 16) G_Kinds_table_of (by decide)
  have k_Kinds_table_of := F_Kinds_table_of.kp
  have b_Kinds_table_of := bi_Kinds_table_of F_Kinds_table_of
  obtain ⟨fd_check_given, F_check_given⟩ := T.d_check_given
  have G_check_given := (ok_check_given (P := P) (w := w) (base := base) T F_check_given)
  have k_check_given := F_check_given.kp
  have b_check_given := bi_check_given F_check_given
  refine okI F sc_Kinds_check_status fun cdv A outer s H E hr hG tk hp => ?_
  have hu := hu_of hr
  have hu1 := hu1_of hr
  have hu64 := hu64_of hr
  have hT := hTabs T
  have hF := hFld T
  exact (is_cons (wset 3 sc_Kinds_check_status.nd (iv_v (iv_meth (mo_cons T.cl_Kinds T.m_Kinds_table_of (fact_of G_Kinds_table_of b_Kinds_table_of rfl) mo_nil) hr hG tk (iv_v (wv 0)) (ia_cons (iv_v (wv 1)) (ia_cons (iv_v (wv 2)) (ia_cons (iv_v iv_int) ia_nil (by rfl)) (by rfl)) (by rfl)) (by rfl) (by rfl) (by rfl))))
    (is_cons (is_expr (iv_call (fact_of G_check_given b_check_given rfl) hr hG tk rfl T.g_check_given k_check_given (ia_cons (iv_v (wv 3)) (ia_cons (iv_v (wv 2)) (ia_cons (iv_v (wt (cb_list rfl) T.n_list (by decide +kernel) (ir_cons (wv 2) ir_nil (by rfl)))) ia_nil (by rfl)) (by rfl)) (by rfl)) (by decide) rfl rfl) (by rfl))
    is_nil))
def m_Kinds_fields : DSt :=
    (mSeq (mExpr (mMeth meth_check_kind_1 "check_kind" 1 (mV (mVar 0)) (mCons (mV (mVar 1)) mNil)))
    (mSeq (mRet (mLc (mIter (mBlt bSorted (mConsR (mBin (opIx tabs) (mBin (opIx tabs) (mFld fld "rows" (mVar 0)) (mVar 1)) (mC (.int 0))) mNilR))) (.nm 2) mYes (mV (mBin (opIx tabs) (mBin (opIx tabs) (mBin (opIx tabs) (mFld fld "rows" (mVar 0)) (mVar 1)) (mC (.int 0))) (mVar 2))) [2]))
    mPass))
def run_Kinds_fields : Run := fnRun N_Kinds_fields.length m_Kinds_fields
/- Kinds_fields -/
theorem ok_Kinds_fields (T : Txt K mg w) (F : FunD K "fields" "Kinds.fields" (defArgs s_Kinds_fields) (defBody s_Kinds_fields) (defScope s_Kinds_fields) [] [] (He.fAd K ("Kinds", some "fields")) fd) : FnG P w K mg base (L2N.CX P w) 5 (He.fAd K ("Kinds", some "fields")) fd ps_Kinds_fields (spI K ps_Kinds_fields.length run_Kinds_fields) := by
  obtain ⟨fd_Kinds_check_kind, F_Kinds_check_kind⟩ := T.d_Kinds_check_kind
  have G_Kinds_check_kind := (ok_Kinds_check_kind (P := P) (w := w) (base := base) T F_Kinds_check_kind)
  have k_Kinds_check_kind := F_Kinds_check_kind.kp
  have b_Kinds_check_kind := bi_Kinds_check_kind F_Kinds_check_kind
  refine okI F sc_Kinds_fields fun cdv A outer s H E hr hG tk hp => ?_
  have hu := hu_of hr
  have hu1 := hu1_of hr
  have hu64 := hu64_of hr
  have hT := hTabs T
  have hF := hFld T
  exact (is_cons (is_expr (iv_meth (mo_cons T.cl_Kinds T.m_Kinds_check_kind (fact_of G_Kinds_check_kind b_Kinds_check_kind rfl) mo_nil) hr hG tk (iv_v (wv 0)) (ia_cons (iv_v (wv 1)) ia_nil (by rfl)) (by rfl) (by rfl) (by rfl)) (by rfl))
    (is_cons (is_ret (iv_lc (own := [("name", 2)]) rfl sc_Kinds_fields.nd (ii_iter (wb (cb_sorted rfl) T.n_sorted (by decide +kernel) (ir_cons (iv_ix hT hu (iv_ix hT hu (iv_fld hF (wv 0) rfl) (wv 1) (fun _ _ => rfl)) iv_int (fun _ _ => rfl)) ir_nil (by rfl)))) (blkOk_by (own := [("name", 2)]) (by kernel_rfl)) (fun _ _ _ _ _ => (gnm 2 sc_Kinds_fields.nd)) (fun _ _ _ _ _ => its_nil) (fun _ _ _ _ _ => (iv_v (iv_ix hT hu (iv_ix hT hu (iv_ix hT hu (iv_fld hF (wv 0) rfl) (wv 1) (fun _ _ => rfl)) iv_int (fun _ _ => rfl)) (wv 2) (fun _ _ => rfl)))) (fun _ => rfl)))
    is_nil))
def m_Kinds_filled_status : DSt :=
    (mSeq (mSet 3 (mV (mMeth meth_table_of_3 "table_of" 3 (mV (mVar 0)) (mCons (mV (mVar 1)) (mCons (mV (mVar 2)) (mCons (mV (mC (.int 1))) mNil))))))
    (mSeq (mLockS (mV (mVar 3)) (mSet 4 (mV (mDc (mIterD 2 (mV (mVar 3))) (.tp ((.nm 5) :: ((.nm 6) :: []))) mYes (mV (mVar 5)) (mV (mBin (opIx tabs) (mVar 6) (mC (.int 2)))) [5, 6]))))
    (mSeq (mExpr (mUpd (mV (mVar 4)) (mVar 2)))
    (mSeq (mRet (mVar 4))
    mPass))))
def run_Kinds_filled_status : Run := fnRun N_Kinds_filled_status.length m_Kinds_filled_status
/- Kinds_filled_status -/
theorem ok_Kinds_filled_status (T : Txt K mg w) (F : FunD K "filled_status" "Kinds.filled_status" (defArgs s_Kinds_filled_status) (defBody s_Kinds_filled_status) (defScope s_Kinds_filled_status) [] [] (He.fAd K ("Kinds", some "filled_status")) fd) : FnG P w K mg base (L2N.CX P w) 6 (He.fAd K ("Kinds", some "filled_status")) fd ps_Kinds_filled_status (spI K ps_Kinds_filled_status.length run_Kinds_filled_status) := by
  obtain ⟨fd_Kinds_table_of, F_Kinds_table_of⟩ := T.d_Kinds_table_of
  have G_Kinds_table_of := (ok_Kinds_table_of (P := P) (w := w) (base := base) T F_Kinds_table_of)
  have k_Kinds_table_of := F_Kinds_table_of.kp
  have b_Kinds_table_of := bi_Kinds_table_of F_Kinds_table_of
  refine okI F sc_Kinds_filled_status fun cdv A outer s H E hr hG tk hp => ?_
  have hu := hu_of hr
  have hu1 := hu1_of hr
  have hu64 := hu64_of hr
  have hT := hTabs T
  have hF := hFld T
  exact (is_cons (wset 3 sc_Kinds_filled_status.nd (iv_v (iv_meth (mo_cons T.cl_Kinds T.m_Kinds_table_of (fact_of G_Kinds_table_of b_Kinds_table_of rfl) mo_nil) hr hG tk (iv_v (wv 0)) (ia_cons (iv_v (wv 1)) (ia_cons (iv_v (wv 2)) (ia_cons (iv_v iv_int) ia_nil (by rfl)) (by rfl)) (by rfl)) (by rfl) (by rfl) (by rfl))))
    (is_cons (is_lock (md := (mV (mVar 3))) (is_setDc (i := 4) (own := [("name", 5), ("row", 6)]) rfl sc_Kinds_filled_status.nd rfl rfl (sw_trueD rfl rfl rfl (by decide +kernel)) (ii_items (iv_v (wv 3)) (pi_items (iv_v (wv 3)))) (blkOk_by (own := [("name", 5), ("row", 6)]) (by kernel_rfl)) (fun _ _ _ _ _ => (gn_tup rfl (gn_cons (gnm 5 sc_Kinds_filled_status.nd) (gn_cons (gnm 6 sc_Kinds_filled_status.nd) gn_nil (by rfl)) (by rfl)) rfl (by rfl) (by rfl))) (fun _ _ _ _ _ => its_nil) (fun _ _ _ _ _ => (iv_v (wv 5))) (fun _ _ _ _ _ => (iv_v (iv_ix hT hu (wv 6) iv_int (fun _ _ => rfl)))) (fun _ => rfl)))
    (is_cons (is_expr (iv_upd (iv_v (wv 4)) (wv 2) ⟨rfl, rfl, rfl, rfl⟩) (by rfl))
    (is_cons (is_ret (wv 4))
    is_nil))))
def m_Kinds_status_fields : DSt :=
    (mSeq (mExpr (mMeth meth_check_kind_1 "check_kind" 1 (mV (mVar 0)) (mCons (mV (mVar 1)) mNil)))
    (mSeq (mRet (mLc (mIter (mBlt bSorted (mConsR (mBin (opIx tabs) (mBin (opIx tabs) (mFld fld "rows" (mVar 0)) (mVar 1)) (mC (.int 1))) mNilR))) (.nm 2) mYes (mV (mBin (opIx tabs) (mBin (opIx tabs) (mBin (opIx tabs) (mFld fld "rows" (mVar 0)) (mVar 1)) (mC (.int 1))) (mVar 2))) [2]))
    mPass))
def run_Kinds_status_fields : Run := fnRun N_Kinds_status_fields.length m_Kinds_status_fields
/- Kinds_status_fields -/
theorem ok_Kinds_status_fields (T : Txt K mg w) (F : FunD K "status_fields" "Kinds.status_fields" (defArgs s_Kinds_status_fields) (defBody s_Kinds_status_fields) (defScope s_Kinds_status_fields) [] [] (He.fAd K ("Kinds", some "status_fields")) fd) : FnG P w K mg base (L2N.CX P w) 5 (He.fAd K ("Kinds", some "status_fields")) fd ps_Kinds_status_fields (spI K ps_Kinds_status_fields.length run_Kinds_status_fields) := by
  obtain ⟨fd_Kinds_check_kind, F_Kinds_check_kind⟩ := T.d_Kinds_check_kind
  have G_Kinds_check_kind := (ok_Kinds_check_kind (P := P) (w := w) (base := base) T F_Kinds_check_kind)
  have k_Kinds_check_kind := F_Kinds_check_kind.kp
  have b_Kinds_check_kind := bi_Kinds_check_kind F_Kinds_check_kind
  refine okI F sc_Kinds_status_fields fun cdv A outer s H E hr hG tk hp => ?_
  have hu := hu_of hr
  have hu1 := hu1_of hr
  have hu64 := hu64_of hr
  have hT := hTabs T
  have hF := hFld T
  exact (is_cons (is_expr (iv_meth (mo_cons T.cl_Kinds T.m_Kinds_check_kind (fact_of G_Kinds_check_kind b_Kinds_check_kind rfl) mo_nil) hr hG tk (iv_v (wv 0)) (ia_cons (iv_v (wv 1)) ia_nil (by rfl)) (by rfl) (by rfl) (by rfl)) (by rfl))
    (is_cons (is_ret (iv_lc (own := [("name", 2)]) rfl sc_Kinds_status_fields.nd (ii_iter (wb (cb_sorted rfl) T.n_sorted (by decide +kernel) (ir_cons (iv_ix hT hu (iv_ix hT hu (iv_fld hF (wv 0) rfl) (wv 1) (fun _ _ => rfl)) iv_int (fun _ _ => rfl)) ir_nil (by rfl)))) (blkOk_by (own := [("name", 2)]) (by kernel_rfl)) (fun _ _ _ _ _ => (gnm 2 sc_Kinds_status_fields.nd)) (fun _ _ _ _ _ => its_nil) (fun _ _ _ _ _ => (iv_v (iv_ix hT hu (iv_ix hT hu (iv_ix hT hu (iv_fld hF (wv 0) rfl) (wv 1) (fun _ _ => rfl)) iv_int (fun _ _ => rfl)) (wv 2) (fun _ _ => rfl)))) (fun _ => rfl)))
    is_nil))
abbrev meth_check_2 : Str → Option (Run × List DV) := (fun c => if c = "Kinds" then some (run_Kinds_check, []) else (fun _ => none) c)
abbrev meth_check_some_2 : Str → Option (Run × List DV) := (fun c => if c = "Kinds" then some (run_Kinds_check_some, []) else (fun _ => none) c)
abbrev meth_check_status_2 : Str → Option (Run × List DV) := (fun c => if c = "Kinds" then some (run_Kinds_check_status, []) else (fun _ => none) c)
abbrev meth_fields_1 : Str → Option (Run × List DV) := (fun c => if c = "Kinds" then some (run_Kinds_fields, []) else (fun _ => none) c)
abbrev meth_filled_status_2 : Str → Option (Run × List DV) := (fun c => if c = "Kinds" then some (run_Kinds_filled_status, []) else (fun _ => none) c)
abbrev meth_status_fields_1 : Str → Option (Run × List DV) := (fun c => if c = "Kinds" then some (run_Kinds_status_fields, []) else (fun _ => none) c)
def m__law_right : DSt :=
    (mSeq (mSet 3 (mV (mSortK (lamRun 1 (mBin (opIx tabs) (mVar 0) (mC (.int 0)))) [] (mBin (opIx tabs) (mVar 2) (mC (.int 0))))))
    (mSeq (mSet 4 (mV (mSortK (lamRun 1 (mBin (opIx tabs) (mVar 0) (mC (.int 0)))) [] (mBin (opIx tabs) (mVar 2) (mC (.int 1))))))
    (mSeq (mFor (mRng rng1 (mCons (mV (mC (.int 2))) mNil)) (.nm 5) (mSeq (mSet 6 (mV (mLst (mCons (mV (mMeth meth_fields_1 "fields" 1 (mV (mVar 0)) (mCons (mV (mVar 1)) mNil))) (mCons (mV (mMeth meth_status_fields_1 "status_fields" 1 (mV (mVar 0)) (mCons (mV (mVar 1)) mNil))) (mCons (mV (mMeth meth_filled_2 "filled" 2 (mV (mVar 0)) (mCons (mV (mVar 1)) (mCons (mV mEmptyD) mNil)))) (mCons (mV (mMeth meth_filled_status_2 "filled_status" 2 (mV (mVar 0)) (mCons (mV (mVar 1)) (mCons (mV mEmptyD) mNil)))) mNil)))))))
      (mSeq (mIfS (mCmpT (opCmpX .NotEq) (mBlt bRepr (mConsR (mSl (mVar 6) mNoPart (mPart (mC (.int 2)))) mNilR)) (mBlt bRepr (mConsR (mLst (mCons (mV (mVar 3)) (mCons (mV (mVar 4)) mNil))) mNilR))) (mSeq (mRet (mC (.bl false)))
        mPass) mPass)
      (mSeq (mIfS (mCmpT (opCmpX .NotEq) (mBin (opIx tabs) (mVar 6) (mC (.int 2))) (mBlt bDict (mConsR (mLc (mIter (mVar 3)) (.nm 8) mYes (mV (mTup (mCons (mV (mBin (opIx tabs) (mVar 8) (mC (.int 0)))) (mCons (mV (mBin (opIx tabs) (mVar 8) (mC (.int 2)))) mNil)))) [8]) mNilR))) (mSeq (mRet (mC (.bl false)))
        mPass) mPass)
      (mSeq (mIfS (mCmpT (opCmpX .NotEq) (mBin (opIx tabs) (mVar 6) (mC (.int 3))) (mBlt bDict (mConsR (mLc (mIter (mVar 4)) (.nm 8) mYes (mV (mTup (mCons (mV (mBin (opIx tabs) (mVar 8) (mC (.int 0)))) (mCons (mV (mBin (opIx tabs) (mVar 8) (mC (.int 2)))) mNil)))) [8]) mNilR))) (mSeq (mRet (mC (.bl false)))
        mPass) mPass)
      (mSeq (mFor (mIter (mVar 6)) (.nm 7) (mSeq (mExpr (mClr (mV (mVar 7))))
        mPass))
      mPass))))))
    (mSeq (mRet (mAndV (mCmp (opCmp .Is) (mMeth meth_check_2 "check" 2 (mV (mVar 0)) (mCons (mV (mVar 1)) (mCons (mV mEmptyD) mNil))) (mC .non)) (mAndV (mCmp (opCmp .Is) (mMeth meth_check_some_2 "check_some" 2 (mV (mVar 0)) (mCons (mV (mVar 1)) (mCons (mV mEmptyD) mNil))) (mC .non)) (mCmp (opCmp .Is) (mMeth meth_check_status_2 "check_status" 2 (mV (mVar 0)) (mCons (mV (mVar 1)) (mCons (mV mEmptyD) mNil))) (mC .non)))))
    mPass))))
def run__law_right : Run := gcRun (fnRun N__law_right.length m__law_right)
/- _law_right -/
theorem ok__law_right (T : Txt K mg w) (F : FnP K "_law_right" s__law_right [] fd) (TB : LamX.TabB base mg (He.codeOf K ("_law_right", none)) (He.tabOf K (He.codeOf K ("_law_right", none)))) : FnG P w K mg base (L2N.CX P w) 18 (He.ga K "_law_right") fd ps__law_right (spI K ps__law_right.length run__law_right) := by
  obtain ⟨fd_Kinds_check, F_Kinds_check⟩ := T.d_Kinds_check
  have G_Kinds_check := (ok_Kinds_check (P := P) (w := w) (base := base) T F_Kinds_check)
  have k_Kinds_check := F_Kinds_check.kp
  have b_Kinds_check := bi_Kinds_check F_Kinds_check
  obtain ⟨fd_Kinds_check_some, F_Kinds_check_some⟩ := T.d_Kinds_check_some
  have G_Kinds_check_some := (ok_Kinds_check_some (P := P) (w := w) (base := base) T F_Kinds_check_some)
  have k_Kinds_check_some := F_Kinds_check_some.kp
  have b_Kinds_check_some := bi_Kinds_check_some F_Kinds_check_some
  obtain ⟨fd_Kinds_check_status, F_Kinds_check_status⟩ := T.d_Kinds_check_status
  have G_Kinds_check_status := (ok_Kinds_check_status (P := P) (w := w) (base := base) T F_Kinds_check_status)
  have k_Kinds_check_status := F_Kinds_check_status.kp
  have b_Kinds_check_status := bi_Kinds_check_status F_Kinds_check_status
  obtain ⟨fd_Kinds_fields, F_Kinds_fields⟩ := T.d_Kinds_fields
  have G_Kinds_fields := (ok_Kinds_fields (P := P) (w := w) (base := base) T F_Kinds_fields)
  have G_Kinds_fields := FnG.mono (k := 17) G_Kinds_fields (by decide)
  have k_Kinds_fields := F_Kinds_fields.kp
  have b_Kinds_fields := bi_Kinds_fields F_Kinds_fields
  obtain ⟨fd_Kinds_filled, F_Kinds_filled⟩ := T.d_Kinds_filled
  have G_Kinds_filled := (ok_Kinds_filled (P := P) (w := w) (base := base) T F_Kinds_filled)
  have G_Kinds_filled := FnG.mono (k := 17) G_Kinds_filled (by decide)
  have k_Kinds_filled := F_Kinds_filled.kp
  have b_Kinds_filled := bi_Kinds_filled F_Kinds_filled
  obtain ⟨fd_Kinds_filled_status, F_Kinds_filled_status⟩ := T.d_Kinds_filled_status
  have G_Kinds_filled_status := (ok_Kinds_filled_status (P := P) (w := w) (base := base) T F_Kinds_filled_status)
  have G_Kinds_filled_status := FnG.mono (k := 17) G_Kinds_filled_status (by decide)
  have k_Kinds_filled_status := F_Kinds_filled_status.kp
  have b_Kinds_filled_status := bi_Kinds_filled_status F_Kinds_filled_status
  obtain ⟨fd_Kinds_status_fields, F_Kinds_status_fields⟩ := T.d_Kinds_status_fields
  have G_Kinds_status_fields := (ok_Kinds_status_fields (P := P) (w := w) (base := base) T F_Kinds_status_fields)
  have G_Kinds_status_fields := FnG.mono (k := 17) G_Kinds_status_fields (by decide)
  have k_Kinds_status_fields := F_Kinds_status_fields.kp
  have b_Kinds_status_fields := bi_Kinds_status_fields F_Kinds_status_fields
  refine okGc (okIL (p := ("_law_right", none)) F sc__law_right fun A outer s H E hr hG tk hp => ?_)
  have hu := hu_of hr
  have hu1 := hu1_of hr
  have hu64 := hu64_of hr
  have hT := hTabs T
  have hF := hFld T
  exact (is_cons (wset 3 sc__law_right.nd (iv_v (iv_sortL (k := 14) (N := ["_law_row"]) (x := "_law_row") (c := He.codeOf K ("_law_right", none)) (P := He.tabOf K (He.codeOf K ("_law_right", none))) TB rfl (List.mem_singleton.mpr rfl) (fun p hp _ => by rw [List.mem_singleton.mp hp]; rfl) rfl rfl rfl (by exact ⟨rfl, rfl, rfl, by decide +kernel, rfl, by decide +kernel, by decide +kernel⟩) hr hG (fun _ _ _ _ _ _ => rfl) (fun _ _ _ _ _ _ hr hG => by
      have hu := hu_of hr
      have hu1 := hu1_of hr
      exact (iv_ix hT hu (wv 0) iv_int (fun _ _ => rfl))) T.n_sorted (iv_ix hT hu (wv 2) iv_int (fun _ _ => rfl)))))
    (is_cons (wset 4 sc__law_right.nd (iv_v (iv_sortL (k := 14) (N := ["_law_row"]) (x := "_law_row") (c := He.codeOf K ("_law_right", none)) (P := He.tabOf K (He.codeOf K ("_law_right", none))) TB rfl (List.mem_singleton.mpr rfl) (fun p hp _ => by rw [List.mem_singleton.mp hp]; rfl) rfl rfl rfl (by exact ⟨rfl, rfl, rfl, by decide +kernel, rfl, by decide +kernel, by decide +kernel⟩) hr hG (fun _ _ _ _ _ _ => rfl) (fun _ _ _ _ _ _ hr hG => by
      have hu := hu_of hr
      have hu1 := hu1_of hr
      exact (iv_ix hT hu (wv 0) iv_int (fun _ _ => rfl))) T.n_sorted (iv_ix hT hu (wv 2) iv_int (fun _ _ => rfl)))))
    (is_cons (is_for hp rfl (ii_rng1 (pi_range1 (by rfl) T.n_range (ia_cons (iv_v iv_int) ia_nil (by rfl)))) (gnm 5 sc__law_right.nd) (is_cons (wset 6 sc__law_right.nd (iv_v (iv_lst (ia_cons (iv_v (iv_meth (mo_cons T.cl_Kinds T.m_Kinds_fields (fact_of G_Kinds_fields b_Kinds_fields rfl) mo_nil) hr hG tk (iv_v (wv 0)) (ia_cons (iv_v (wv 1)) ia_nil (by rfl)) (by rfl) (by rfl) (by rfl))) (ia_cons (iv_v (iv_meth (mo_cons T.cl_Kinds T.m_Kinds_status_fields (fact_of G_Kinds_status_fields b_Kinds_status_fields rfl) mo_nil) hr hG tk (iv_v (wv 0)) (ia_cons (iv_v (wv 1)) ia_nil (by rfl)) (by rfl) (by rfl) (by rfl))) (ia_cons (iv_v (iv_meth (mo_cons T.cl_Kinds T.m_Kinds_filled (fact_of G_Kinds_filled b_Kinds_filled rfl) mo_nil) hr hG tk (iv_v (wv 0)) (ia_cons (iv_v (wv 1)) (ia_cons (iv_v iv_dnew) ia_nil (by rfl)) (by rfl)) (by rfl) (by rfl) (by rfl))) (ia_cons (iv_v (iv_meth (mo_cons T.cl_Kinds T.m_Kinds_filled_status (fact_of G_Kinds_filled_status b_Kinds_filled_status rfl) mo_nil) hr hG tk (iv_v (wv 0)) (ia_cons (iv_v (wv 1)) (ia_cons (iv_v iv_dnew) ia_nil (by rfl)) (by rfl)) (by rfl) (by rfl) (by rfl))) ia_nil (by rfl)) (by rfl)) (by rfl)) (by rfl)))))
      (is_cons (is_if (iv_cmpXT (op := .NotEq) hu (wb (cb_repr hG hu64) T.n_repr (by decide +kernel) (ir_cons (iv_sl (wv 6) io_none (io_some iv_int)) ir_nil (by rfl))) (wb (cb_repr hG hu64) T.n_repr (by decide +kernel) (ir_cons (iv_lst (ia_cons (iv_v (wv 3)) (ia_cons (iv_v (wv 4)) ia_nil (by rfl)) (by rfl))) ir_nil (by rfl))) (by rfl)) (is_cons (is_ret iv_bl)
        is_nil) is_nil)
      (is_cons (is_if (iv_cmpXT (op := .NotEq) hu (iv_ix hT hu (wv 6) iv_int (fun _ _ => rfl)) (wt (cb_dict rfl) T.n_dict (by decide +kernel) (ir_cons (iv_lc (own := [("_law_row", 8)]) rfl sc__law_right.nd (ii_iter (wv 3)) (blkOk_by (own := [("_law_row", 8)]) (by kernel_rfl)) (fun _ _ _ _ _ => (gnm 8 sc__law_right.nd)) (fun _ _ _ _ _ => its_nil) (fun _ _ _ _ _ => (iv_v (iv_tup (ia_cons (iv_v (iv_ix hT hu (wv 8) iv_int (fun _ _ => rfl))) (ia_cons (iv_v (iv_ix hT hu (wv 8) iv_int (fun _ _ => rfl))) ia_nil (by rfl)) (by rfl))))) (fun _ => rfl)) ir_nil (by rfl))) (by rfl)) (is_cons (is_ret iv_bl)
        is_nil) is_nil)
      (is_cons (is_if (iv_cmpXT (op := .NotEq) hu (iv_ix hT hu (wv 6) iv_int (fun _ _ => rfl)) (wt (cb_dict rfl) T.n_dict (by decide +kernel) (ir_cons (iv_lc (own := [("_law_row", 8)]) rfl sc__law_right.nd (ii_iter (wv 4)) (blkOk_by (own := [("_law_row", 8)]) (by kernel_rfl)) (fun _ _ _ _ _ => (gnm 8 sc__law_right.nd)) (fun _ _ _ _ _ => its_nil) (fun _ _ _ _ _ => (iv_v (iv_tup (ia_cons (iv_v (iv_ix hT hu (wv 8) iv_int (fun _ _ => rfl))) (ia_cons (iv_v (iv_ix hT hu (wv 8) iv_int (fun _ _ => rfl))) ia_nil (by rfl)) (by rfl))))) (fun _ => rfl)) ir_nil (by rfl))) (by rfl)) (is_cons (is_ret iv_bl)
        is_nil) is_nil)
      (is_cons (is_for hp rfl (ii_iter (wv 6)) (gnm 7 sc__law_right.nd) (is_cons (is_expr (wclr (iv_v (wv 7))) (by rfl))
        is_nil) (fun _ => rfl))
      is_nil))))) (fun _ => rfl))
    (is_cons (is_ret (iv_andV (iv_cmp (op := .Is) hu (iv_meth (mo_cons T.cl_Kinds T.m_Kinds_check (fact_of G_Kinds_check b_Kinds_check rfl) mo_nil) hr hG tk (iv_v (wv 0)) (ia_cons (iv_v (wv 1)) (ia_cons (iv_v iv_dnew) ia_nil (by rfl)) (by rfl)) (by rfl) (by rfl) (by rfl)) iv_non (by rfl)) (iv_andV (iv_cmp (op := .Is) hu (iv_meth (mo_cons T.cl_Kinds T.m_Kinds_check_some (fact_of G_Kinds_check_some b_Kinds_check_some rfl) mo_nil) hr hG tk (iv_v (wv 0)) (ia_cons (iv_v (wv 1)) (ia_cons (iv_v iv_dnew) ia_nil (by rfl)) (by rfl)) (by rfl) (by rfl) (by rfl)) iv_non (by rfl)) (iv_one (iv_cmp (op := .Is) hu (iv_meth (mo_cons T.cl_Kinds T.m_Kinds_check_status (fact_of G_Kinds_check_status b_Kinds_check_status rfl) mo_nil) hr hG tk (iv_v (wv 0)) (ia_cons (iv_v (wv 1)) (ia_cons (iv_v iv_dnew) ia_nil (by rfl)) (by rfl)) (by rfl) (by rfl) (by rfl)) iv_non (by rfl))))))
    is_nil))))
def m_Kinds_add : DSt :=
    (mSeq (mIfS (mOrT (mNotT (mTru (mCallF run_is_user_name [] 1 (mCons (mV (mVar 1)) mNil)))) (mCmpT (opCmp .In) (mVar 1) (mFld fld "rows" (mVar 0)))) (mSeq (mRaise "BadKind" 1 rs_BadKind (mCons (mV (mVar 1)) mNil))
      mPass) mPass)
    (mSeq (mExpr (mCallF run_check_rows [] 2 (mCons (mV (mVar 2)) (mCons (mV (mC (.bl false))) mNil))))
    (mSeq (mExpr (mCallF run_check_rows [] 2 (mCons (mV (mVar 3)) (mCons (mV (mC (.bl true))) mNil))))
    (mSeq (mAsg (mV (mTup (mCons (mV (mDc (mIter (mVar 2)) (.nm 4) mYes (mV (mBin (opIx tabs) (mVar 4) (mC (.int 0)))) (mV (mVar 4)) [4])) (mCons (mV (mDc (mIter (mVar 3)) (.nm 4) mYes (mV (mBin (opIx tabs) (mVar 4) (mC (.int 0)))) (mV (mVar 4)) [4])) mNil)))) (gSubM (mV (mFld fld "rows" (mVar 0))) (mV (mVar 1))))
    (mSeq (mAsg (mV (mDisp (((mC (.str "hub")), (mV (mCallF run_ways_of [] 1 (mCons (mV (mDc (mIter (mVar 2)) (.nm 4) mYes (mV (mBin (opIx tabs) (mVar 4) (mC (.int 0)))) (mV (mBin (opIx tabs) (mVar 4) (mC (.int 1)))) [4])) mNil)))) :: []))) (gSubM (mV (mFld fld "ways" (mVar 0))) (mV (mVar 1))))
    mPass)))))
def run_Kinds_add : Run := fnRun N_Kinds_add.length m_Kinds_add
/- Kinds_add -/
theorem ok_Kinds_add (T : Txt K mg w) (F : FunD K "add" "Kinds.add" (defArgs s_Kinds_add) (defBody s_Kinds_add) (defScope s_Kinds_add) [] [] (He.fAd K ("Kinds", some "add")) fd) : FnG P w K mg base (L2N.CX P w) 18 (He.fAd K ("Kinds", some "add")) fd ps_Kinds_add (spI K ps_Kinds_add.length run_Kinds_add) := by
  obtain ⟨fd_check_rows, F_check_rows⟩ := T.d_check_rows
  have G_check_rows := (ok_check_rows (P := P) (w := w) (base := base) T F_check_rows)
  have k_check_rows := F_check_rows.kp
  have b_check_rows := bi_check_rows F_check_rows
  obtain ⟨fd_is_user_name, F_is_user_name⟩ := T.d_is_user_name
  have G_is_user_name := (ok_is_user_name (P := P) (w := w) (base := base) T F_is_user_name)
  have G_is_user_name := FnG.mono (k := 17) G_is_user_name (by decide)
  have k_is_user_name := F_is_user_name.kp
  have b_is_user_name := bi_is_user_name F_is_user_name
  obtain ⟨fd_ways_of, F_ways_of⟩ := T.d_ways_of
  have G_ways_of := (ok_ways_of (P := P) (w := w) (base := base) T F_ways_of)
  have G_ways_of := FnG.mono (k := 17) G_ways_of (by decide)
  have k_ways_of := F_ways_of.kp
  have b_ways_of := bi_ways_of F_ways_of
  obtain ⟨t_HUB, h_HUB⟩ := T.c_HUB
  refine okI F sc_Kinds_add fun cdv A outer s H E hr hG tk hp => ?_
  have hu := hu_of hr
  have hu1 := hu1_of hr
  have hu64 := hu64_of hr
  have hT := hTabs T
  have hF := hFld T
  have hr2 := hr.mono (j := 3) (by first | decide | omega)
  exact (is_cons (is_if (PW.pt (iv_orT (iv_notT (iv_tru (iv_call (fact_of G_is_user_name b_is_user_name rfl) hr hG tk rfl T.g_is_user_name k_is_user_name (ia_cons (iv_v (wv 1)) ia_nil (by rfl)) (by decide) rfl rfl) (by intro _; rfl))) (iv_or1 (iv_cmpT (op := .In) hu (wv 1) (iv_fld hF (wv 0) rfl) (by rfl))))) (is_cons (is_raise rfl tk (RO_BadKind T hr2 rfl) (ia_cons (iv_v (wv 1)) ia_nil (by rfl)) rfl rfl)
      is_nil) is_nil)
    (is_cons (is_expr (iv_call (fact_of G_check_rows b_check_rows rfl) hr hG tk rfl T.g_check_rows k_check_rows (ia_cons (iv_v (wv 2)) (ia_cons (iv_v iv_bl) ia_nil (by rfl)) (by rfl)) (by decide) rfl rfl) (by rfl))
    (is_cons (is_expr (iv_call (fact_of G_check_rows b_check_rows rfl) hr hG tk rfl T.g_check_rows k_check_rows (ia_cons (iv_v (wv 3)) (ia_cons (iv_v iv_bl) ia_nil (by rfl)) (by rfl)) (by decide) rfl rfl) (by rfl))
    (is_cons (wasg (iv_v (iv_tup (ia_cons (iv_v (iv_dc (own := [("row", 4)]) rfl sc_Kinds_add.nd (ii_iter (wv 2)) (blkOk_by (own := [("row", 4)]) (by kernel_rfl)) (fun _ _ _ _ _ => (gnm 4 sc_Kinds_add.nd)) (fun _ _ _ _ _ => its_nil) (fun _ _ _ _ _ => (iv_v (iv_ix hT hu (wv 4) iv_int (fun _ _ => rfl)))) (fun _ _ _ _ _ => (iv_v (wv 4))) (fun _ => rfl))) (ia_cons (iv_v (iv_dc (own := [("row", 4)]) rfl sc_Kinds_add.nd (ii_iter (wv 3)) (blkOk_by (own := [("row", 4)]) (by kernel_rfl)) (fun _ _ _ _ _ => (gnm 4 sc_Kinds_add.nd)) (fun _ _ _ _ _ => its_nil) (fun _ _ _ _ _ => (iv_v (iv_ix hT hu (wv 4) iv_int (fun _ _ => rfl)))) (fun _ _ _ _ _ => (iv_v (wv 4))) (fun _ => rfl))) ia_nil (by rfl)) (by rfl)))) (ig_sub hu1 (iv_v (iv_fld hF (wv 0) rfl)) (iv_v (wv 1)) (by intro _; rfl)) nx_sub)
    (is_cons (wasg (iv_v (iv_disp (ps := (((mC (.str "hub")), (mV (mCallF run_ways_of [] 1 (mCons (mV (mDc (mIter (mVar 2)) (.nm 4) mYes (mV (mBin (opIx tabs) (mVar 4) (mC (.int 0)))) (mV (mBin (opIx tabs) (mVar 4) (mC (.int 1)))) [4])) mNil)))) :: [])) (pps_cons (wgS h_HUB) (iv_v (iv_call (fact_of G_ways_of b_ways_of rfl) hr hG tk rfl T.g_ways_of k_ways_of (ia_cons (iv_v (iv_dc (own := [("row", 4)]) rfl sc_Kinds_add.nd (ii_iter (wv 2)) (blkOk_by (own := [("row", 4)]) (by kernel_rfl)) (fun _ _ _ _ _ => (gnm 4 sc_Kinds_add.nd)) (fun _ _ _ _ _ => its_nil) (fun _ _ _ _ _ => (iv_v (iv_ix hT hu (wv 4) iv_int (fun _ _ => rfl)))) (fun _ _ _ _ _ => (iv_v (iv_ix hT hu (wv 4) iv_int (fun _ _ => rfl)))) (fun _ => rfl))) ia_nil (by rfl)) (by decide) rfl rfl)) pps_nil) (by rfl) (by rfl) (fun z => by cases z) (by decide))) (ig_sub hu1 (iv_v (iv_fld hF (wv 0) rfl)) (iv_v (wv 1)) (by intro _; rfl)) nx_sub)
    is_nil)))))
abbrev meth_add_3 : Str → Option (Run × List DV) := (fun c => if c = "Kinds" then some (run_Kinds_add, []) else (fun _ => none) c)
def m_Kinds___init__ : DSt :=
    (mSeq (mFldS fld "ways" (mV (mVar 0)) (mV mEmptyD))
    (mSeq (mFldS fld "rows" (mV (mVar 0)) (mV mEmptyD))
    (mSeq (mFor (mIter (mTup (mCons (mV (mCallF run_known_makers [] 0 mNil)) (mCons (mV (mCallF run_known_others [] 0 mNil)) mNil)))) (.nm 1) (mSeq (mLockS (mV (mVar 1)) (mFor (mIterD 2 (mV (mVar 1))) (.tp ((.nm 2) :: ((.tp ((.nm 3) :: ((.nm 4) :: []))) :: []))) (mSeq (mExpr (mMeth meth_add_3 "add" 3 (mV (mVar 0)) (mCons (mV (mVar 2)) (mCons (mV (mVar 3)) (mCons (mV (mVar 4)) mNil)))))
        mPass)))
      mPass))
    mPass)))
def run_Kinds___init__ : Run := fnRun N_Kinds___init__.length m_Kinds___init__
/- Kinds___init__ -/
theorem ok_Kinds___init__ (T : Txt K mg w) (F : FunD K "__init__" "Kinds.__init__" (defArgs s_Kinds___init__) (defBody s_Kinds___init__) (defScope s_Kinds___init__) [] [] (He.fAd K ("Kinds", some "__init__")) fd) : FnG P w K mg base (L2N.CX P w) 19 (He.fAd K ("Kinds", some "__init__")) fd ps_Kinds___init__ (spI K ps_Kinds___init__.length run_Kinds___init__) := by
  obtain ⟨fd_Kinds_add, F_Kinds_add⟩ := T.d_Kinds_add
  have G_Kinds_add := (ok_Kinds_add (P := P) (w := w) (base := base) T F_Kinds_add)
  have k_Kinds_add := F_Kinds_add.kp
  have b_Kinds_add := bi_Kinds_add F_Kinds_add
  obtain ⟨fd_known_makers, F_known_makers⟩ := T.d_known_makers
  have G_known_makers := (ok_known_makers (P := P) (w := w) (base := base) T F_known_makers)
  have G_known_makers := FnG.mono (k := 18) G_known_makers (by decide)
  have k_known_makers := F_known_makers.kp
  have b_known_makers := bi_known_makers F_known_makers
  obtain ⟨fd_known_others, F_known_others⟩ := T.d_known_others
  have G_known_others := (ok_known_others (P := P) (w := w) (base := base) T F_known_others)
  have G_known_others := FnG.mono (k := 18) G_known_others (by decide)
  have k_known_others := F_known_others.kp
  have b_known_others := bi_known_others F_known_others
  refine okI F sc_Kinds___init__ fun cdv A outer s H E hr hG tk hp => ?_
  have hu := hu_of hr
  have hu1 := hu1_of hr
  have hu64 := hu64_of hr
  have hT := hTabs T
  have hF := hFld T
  exact (is_cons (is_fld hF (iv_v (wv 0)) (iv_v iv_dnew) (by rfl))
    (is_cons (is_fld hF (iv_v (wv 0)) (iv_v iv_dnew) (by rfl))
    (is_cons (is_for hp rfl (ii_iter (iv_tup (ia_cons (iv_v (iv_call0 (fact_of G_known_makers b_known_makers rfl) hr hG tk rfl T.g_known_makers k_known_makers (by decide))) (ia_cons (iv_v (iv_call0 (fact_of G_known_others b_known_others rfl) hr hG tk rfl T.g_known_others k_known_others (by decide))) ia_nil (by rfl)) (by rfl)))) (gnm 1 sc_Kinds___init__.nd) (is_cons (is_lock (md := (mV (mVar 1))) (is_for hp rfl (ii_items (iv_v (wv 1)) (pi_items (iv_v (wv 1)))) (gn_tup rfl (gn_cons (gnm 2 sc_Kinds___init__.nd) (gn_cons (gn_tup rfl (gn_cons (gnm 3 sc_Kinds___init__.nd) (gn_cons (gnm 4 sc_Kinds___init__.nd) gn_nil (by rfl)) (by rfl)) rfl (by rfl) (by rfl)) gn_nil (by rfl)) (by rfl)) rfl (by rfl) (by rfl)) (is_cons (is_expr (iv_meth (mo_cons T.cl_Kinds T.m_Kinds_add (fact_of G_Kinds_add b_Kinds_add rfl) mo_nil) hr hG tk (iv_v (wv 0)) (ia_cons (iv_v (wv 2)) (ia_cons (iv_v (wv 3)) (ia_cons (iv_v (wv 4)) ia_nil (by rfl)) (by rfl)) (by rfl)) (by rfl) (by rfl) (by rfl)) (by rfl))
        is_nil) (fun _ => rfl)))
      is_nil) (fun _ => rfl))
    is_nil)))
def m_Kinds_kinds : DSt :=
    (mSeq (mRet (mBlt bSorted (mConsR (mFld fld "rows" (mVar 0)) mNilR)))
    mPass)
def run_Kinds_kinds : Run := fnRun N_Kinds_kinds.length m_Kinds_kinds
/- Kinds_kinds -/
theorem ok_Kinds_kinds (T : Txt K mg w) (F : FunD K "kinds" "Kinds.kinds" (defArgs s_Kinds_kinds) (defBody s_Kinds_kinds) (defScope s_Kinds_kinds) [] [] (He.fAd K ("Kinds", some "kinds")) fd) : FnG P w K mg base (L2N.CX P w) 1 (He.fAd K ("Kinds", some "kinds")) fd ps_Kinds_kinds (spI K ps_Kinds_kinds.length run_Kinds_kinds) := by
  refine okI F sc_Kinds_kinds fun cdv A outer s H E hr hG tk hp => ?_
  have hu := hu_of hr
  have hu1 := hu1_of hr
  have hu64 := hu64_of hr
  have hT := hTabs T
  have hF := hFld T
  exact (is_cons (is_ret (wb (cb_sorted rfl) T.n_sorted (by decide +kernel) (ir_cons (iv_fld hF (wv 0) rfl) ir_nil (by rfl))))
    is_nil)
theorem okh_Kinds_kinds (T : Txt K mg w) (F : FunD K "kinds" "Kinds.kinds" (defArgs s_Kinds_kinds) (defBody s_Kinds_kinds) (defScope s_Kinds_kinds) [] [] (He.fAd K ("Kinds", some "kinds")) fd) : L2H.FnH P w K mg base (L2N.CX P w) 1 (He.fAd K ("Kinds", some "kinds")) fd ps_Kinds_kinds (spI K ps_Kinds_kinds.length run_Kinds_kinds) := by
  refine okH F sc_Kinds_kinds fun cdv A outer s H E p hrH hcH tk => ?_
  have hu := huH_of hrH
  have hu1 := hu1H_of hrH
  have hT := hTabs T
  have hF := hFld T
  exact (is_cons (is_ret (wb (cb_sortedH hcH) T.n_sorted (by decide +kernel) (ir_cons (iv_fld hF (wv 0) rfl) ir_nil (by rfl))))
    is_nil)
abbrev meth_kinds_0 : Str → Option (Run × List DV) := (fun c => if c = "Kinds" then some (run_Kinds_kinds, []) else (fun _ => none) c)
def m_law : DSt :=
    (mSeq (mSet 1 (mV (mCallF run__law_makers [] 0 mNil)))
    (mSeq (mExpr (mUpd (mV (mVar 1)) (mCallF run__law_others [] 0 mNil)))
    (mSeq (mPars [2, 3] (mCons (mV (mMake "Kinds" run_Kinds___init__ [] 0 mNil)) (mCons (mV (mMake "Kinds" run_Kinds___init__ [] 0 mNil)) mNil)))
    (mSeq (mExpr (mMeth meth_add_3 "add" 3 (mV (mVar 3)) (mCons (mV (mC (.str "zoo"))) (mCons (mV (mLst mNil)) (mCons (mV (mLst mNil)) mNil)))))
    (mSeq (mIfS (mOrT (mCmpT (opCmpX .NotEq) (mMeth meth_kinds_0 "kinds" 0 (mV (mVar 2)) mNil) (mBlt bSorted (mConsR (mVar 1) mNilR))) (mCmpT (opCmpX .NotEq) (mMeth meth_kinds_0 "kinds" 0 (mV (mVar 3)) mNil) (mBlt bSorted (mConsR (mBin opAdd (mBlt bList (mConsR (mVar 1) mNilR)) (mLst (mCons (mV (mC (.str "zoo"))) mNil))) mNilR)))) (mSeq (mRet (mC (.bl false)))
      mPass) mPass)
    (mSeq (mExpr (mMt "list" gAppend (mV (mMeth meth_kinds_0 "kinds" 0 (mV (mVar 2)) mNil)) (mCons (mV (mC (.str "zoo"))) mNil)))
    (mSeq (mForG [5, 6, 7, 4] (mIter (mBin opAdd (mLst (mCons (mV (mCallF run__law_cell_at [] 2 (mCons (mV (mVar 0)) (mCons (mV (mC (.int 0))) mNil)))) mNil)) (mSl (mVar 0) (mPart (mC (.int 1))) (mPart (mC (.int 4)))))) (.nm 4) (mSeq (mSet 5 (mV (mCallF run__law_source [] 1 (mCons (mV (mVar 4)) mNil))))
      (mSeq (mSet 6 (mV (mBlt bSorted (mConsR (mVar 1) mNilR))))
      (mSeq (mWhile 100 (mCmpT (opCmpX .NotEq) (mVar 6) (mLst mNil)) (mSeq (mSet 7 (mV (mMt "list" gPop (mV (mVar 6)) (mCons (mV (mCallF run__law_draw [] 2 (mCons (mV (mVar 5)) (mCons (mV (mBlt bLen (mConsR (mVar 6) mNilR))) mNil)))) mNil))))
        (mSeq (mIfS (mNotT (mTru (mCallF run__law_right [] 3 (mCons (mV (mVar 2)) (mCons (mV (mVar 7)) (mCons (mV (mBin (opIx tabs) (mVar 1) (mVar 7))) mNil)))))) (mSeq (mRet (mC (.bl false)))
          mPass) mPass)
        mPass)))
      mPass))))
    (mSeq (mTry exm_BadKind 8 (mSeq (mExpr (mMeth meth_fields_1 "fields" 1 (mV (mVar 2)) (mCons (mV (mC (.str "zoo"))) mNil)))
      mPass) (fun ee => (mSeq (mRet (mAndV (mCmp (opCmpX .Eq) (mExf xfd ee "kind" (mV (mVar 8))) (mC (.str "zoo"))) (mCmp (opCmpX .Eq) (mMeth meth_kinds_0 "kinds" 0 (mV (mVar 2)) mNil) (mBlt bSorted (mConsR (mVar 1) mNilR)))))
      mPass)))
    (mSeq (mRet (mC (.bl false)))
    mPass)))))))))
def run_law : Run := fnRun N_law.length m_law
/- law -/
theorem ok_law (T : Txt K mg w) (F : FnP K "law" s_law [] fd) (TB : LamX.TabB base mg (He.codeOf K ("_law_right", none)) (He.tabOf K (He.codeOf K ("_law_right", none)))) : FnG P w K mg base (L2N.CX P w) 21 (He.ga K "law") fd ps_law (spI K ps_law.length run_law) := by
  obtain ⟨fd_Kinds___init__, F_Kinds___init__⟩ := T.d_Kinds___init__
  have G_Kinds___init__ := (ok_Kinds___init__ (P := P) (w := w) (base := base) T F_Kinds___init__)
  have k_Kinds___init__ := F_Kinds___init__.kp
  have b_Kinds___init__ := bi_Kinds___init__ F_Kinds___init__
  obtain ⟨fd_Kinds_add, F_Kinds_add⟩ := T.d_Kinds_add
  have G_Kinds_add := (ok_Kinds_add (P := P) (w := w) (base := base) T F_Kinds_add)
  have G_Kinds_add := FnG.mono (k := 20) G_Kinds_add (by decide)
  have k_Kinds_add := F_Kinds_add.kp
  have b_Kinds_add := bi_Kinds_add F_Kinds_add
  obtain ⟨fd_Kinds_fields, F_Kinds_fields⟩ := T.d_Kinds_fields
  have G_Kinds_fields := (ok_Kinds_fields (P := P) (w := w) (base := base) T F_Kinds_fields)
  have G_Kinds_fields := FnG.mono (k := 20) G_Kinds_fields (by decide)
  have k_Kinds_fields := F_Kinds_fields.kp
  have b_Kinds_fields := bi_Kinds_fields F_Kinds_fields
  obtain ⟨fd_Kinds_kinds, F_Kinds_kinds⟩ := T.d_Kinds_kinds
  have G_Kinds_kinds := (ok_Kinds_kinds (P := P) (w := w) (base := base) T F_Kinds_kinds)
  have G_Kinds_kinds := FnG.mono (k := 20) G_Kinds_kinds (by decide)
  have k_Kinds_kinds := F_Kinds_kinds.kp
  have b_Kinds_kinds := bi_Kinds_kinds F_Kinds_kinds
  obtain ⟨fd__law_cell_at, F__law_cell_at⟩ := T.d__law_cell_at
  have G__law_cell_at := (ok__law_cell_at (P := P) (w := w) (base := base) T F__law_cell_at)
  have G__law_cell_at := FnG.mono (k := 20) G__law_cell_at (by decide)
  have k__law_cell_at := F__law_cell_at.kp
  have b__law_cell_at := bi__law_cell_at F__law_cell_at
  obtain ⟨fd__law_draw, F__law_draw⟩ := T.d__law_draw
  have G__law_draw := (ok__law_draw (P := P) (w := w) (base := base) T F__law_draw)
  have G__law_draw := FnG.mono (k := 20) G__law_draw (by decide)
  have k__law_draw := F__law_draw.kp
  have b__law_draw := bi__law_draw F__law_draw
  obtain ⟨fd__law_makers, F__law_makers⟩ := T.d__law_makers
  have G__law_makers := (ok__law_makers (P := P) (w := w) (base := base) T F__law_makers)
  have G__law_makers := FnG.mono (k := 20) G__law_makers (by decide)
  have k__law_makers := F__law_makers.kp
  have b__law_makers := bi__law_makers F__law_makers
  obtain ⟨fd__law_others, F__law_others⟩ := T.d__law_others
  have G__law_others := (ok__law_others (P := P) (w := w) (base := base) T F__law_others)
  have G__law_others := FnG.mono (k := 20) G__law_others (by decide)
  have k__law_others := F__law_others.kp
  have b__law_others := bi__law_others F__law_others
  obtain ⟨fd__law_right, F__law_right⟩ := T.d__law_right
  have G__law_right := (ok__law_right (P := P) (w := w) (base := base) T F__law_right TB)
  have G__law_right := FnG.mono (k := 20) G__law_right (by decide)
  have k__law_right := F__law_right.kp
  have b__law_right := bi__law_right F__law_right
  obtain ⟨fd__law_source, F__law_source⟩ := T.d__law_source
  have G__law_source := (ok__law_source (P := P) (w := w) (base := base) T F__law_source)
  have G__law_source := FnG.mono (k := 20) G__law_source (by decide)
  have k__law_source := F__law_source.kp
  have b__law_source := bi__law_source F__law_source
  refine okI F sc_law fun cdv A outer s H E hr hG tk hp => ?_
  have hu := hu_of hr
  have hu1 := hu1_of hr
  have hu64 := hu64_of hr
  have hT := hTabs T
  have hF := hFld T
  have hr1 := hr
  have hXf := hXfd T
  exact (is_cons (wset 1 sc_law.nd (iv_v (iv_call0 (fact_of G__law_makers b__law_makers rfl) hr hG tk rfl T.g__law_makers k__law_makers (by decide))))
    (is_cons (is_expr (iv_upd (iv_v (wv 1)) (iv_call0 (fact_of G__law_others b__law_others rfl) hr hG tk rfl T.g__law_others k__law_others (by decide)) ⟨rfl, rfl, rfl, rfl⟩) (by rfl))
    (is_cons (is_par (i := 2) (j := 3) rfl sc_law.nd rfl rfl (by decide) rfl rfl (ia_cons (iv_v (iv_make0 rfl T.mk_Kinds (fact_of G_Kinds___init__ b_Kinds___init__ rfl) hr1 hG tk rfl T.g_Kinds (by decide))) (ia_cons (iv_v (iv_make0 rfl T.mk_Kinds (fact_of G_Kinds___init__ b_Kinds___init__ rfl) hr1 hG tk rfl T.g_Kinds (by decide))) ia_nil (by rfl)) (by rfl)) (by rfl) (by rfl))
    (is_cons (is_expr (iv_meth (mo_cons T.cl_Kinds T.m_Kinds_add (fact_of G_Kinds_add b_Kinds_add rfl) mo_nil) hr hG tk (iv_v (wv 3)) (ia_cons (iv_v iv_str) (ia_cons (iv_v (iv_lst ia_nil)) (ia_cons (iv_v (iv_lst ia_nil)) ia_nil (by rfl)) (by rfl)) (by rfl)) (by rfl) (by rfl) (by rfl)) (by rfl))
    (is_cons (is_if (PW.pt (iv_orT (iv_cmpXT (op := .NotEq) hu (iv_meth0 (mo_cons T.cl_Kinds T.m_Kinds_kinds (fact_of G_Kinds_kinds b_Kinds_kinds rfl) mo_nil) hr hG tk (iv_v (wv 2)) (by rfl)) (wb (cb_sorted rfl) T.n_sorted (by decide +kernel) (ir_cons (wv 1) ir_nil (by rfl))) (by rfl)) (iv_or1 (iv_cmpXT (op := .NotEq) hu (iv_meth0 (mo_cons T.cl_Kinds T.m_Kinds_kinds (fact_of G_Kinds_kinds b_Kinds_kinds rfl) mo_nil) hr hG tk (iv_v (wv 3)) (by rfl)) (wb (cb_sorted rfl) T.n_sorted (by decide +kernel) (ir_cons (iv_op opAdd_ok (wt (cb_list rfl) T.n_list (by decide +kernel) (ir_cons (wv 1) ir_nil (by rfl))) (iv_lst (ia_cons (iv_v iv_str) ia_nil (by rfl)))) ir_nil (by rfl))) (by rfl))))) (is_cons (is_ret iv_bl)
      is_nil) is_nil)
    (is_cons (is_expr (wm PySem.F.plainAttrs_list PySem.F.slot_list_append PySem.F.type_list_append mg_append (iv_v (iv_meth0 (mo_cons T.cl_Kinds T.m_Kinds_kinds (fact_of G_Kinds_kinds b_Kinds_kinds rfl) mo_nil) hr hG tk (iv_v (wv 2)) (by rfl))) (ia_cons (iv_v iv_str) ia_nil (by rfl))) (by rfl))
    (is_cons (is_forG (ss := [5, 6, 7, 4]) hp rfl (ii_iter (iv_op opAdd_ok (iv_lst (ia_cons (iv_v (iv_call (fact_of G__law_cell_at b__law_cell_at rfl) hr hG tk rfl T.g__law_cell_at k__law_cell_at (ia_cons (iv_v (wv 0)) (ia_cons (iv_v iv_int) ia_nil (by rfl)) (by rfl)) (by decide) rfl rfl)) ia_nil (by rfl))) (iv_sl (wv 0) (io_some iv_int) (io_some iv_int)))) (gnm 4 sc_law.nd) (is_cons (wset 5 sc_law.nd (iv_v (iv_call (fact_of G__law_source b__law_source rfl) hr hG tk rfl T.g__law_source k__law_source (ia_cons (iv_v (wv 4)) ia_nil (by rfl)) (by decide) rfl rfl)))
      (is_cons (wset 6 sc_law.nd (iv_v (wb (cb_sorted rfl) T.n_sorted (by decide +kernel) (ir_cons (wv 1) ir_nil (by rfl)))))
      (is_cons (is_while hp (iv_cmpXT (op := .NotEq) hu (wv 6) (iv_lst ia_nil) (by rfl)) (is_cons (wset 7 sc_law.nd (iv_v (wm PySem.F.plainAttrs_list PySem.F.slot_list_pop PySem.F.type_list_pop mg_pop (iv_v (wv 6)) (ia_cons (iv_v (iv_call (fact_of G__law_draw b__law_draw rfl) hr hG tk rfl T.g__law_draw k__law_draw (ia_cons (iv_v (wv 5)) (ia_cons (iv_v (wb cb_len T.n_len (by decide +kernel) (ir_cons (wv 6) ir_nil (by rfl)))) ia_nil (by rfl)) (by rfl)) (by decide) rfl rfl)) ia_nil (by rfl)))))
        (is_cons (is_if (iv_notT (iv_tru (iv_call (fact_of G__law_right b__law_right rfl) hr hG tk rfl T.g__law_right k__law_right (ia_cons (iv_v (wv 2)) (ia_cons (iv_v (wv 7)) (ia_cons (iv_v (iv_ix hT hu (wv 1) (wv 7) (fun _ _ => rfl))) ia_nil (by rfl)) (by rfl)) (by rfl)) (by decide) rfl rfl) (by intro _; rfl))) (is_cons (is_ret iv_bl)
          is_nil) is_nil)
        is_nil)))
      is_nil))) (fun _ => rfl))
    (is_cons (is_tryAs (i := 8) rfl rfl sc_law.nd rfl rfl ⟨rfl, by decide, .inl T.g_BadKind⟩ tk (hExm_BadKind T)
    (fun _ pn xe tkt hpt => (is_cons (is_expr (iv_meth (mo_cons T.cl_Kinds T.m_Kinds_fields (fact_of G_Kinds_fields b_Kinds_fields rfl) mo_nil) hr hG tkt (iv_v (wv 2)) (ia_cons (iv_v iv_str) ia_nil (by rfl)) (by rfl) (by rfl) (by rfl)) (by rfl))
      is_nil))
    (fun L a dd oe ee pn ea hz hfl hcH rmH => (is_cons (is_ret (iv_andV (iv_cmpX (op := .Eq) hu (iv_exf ea hXf hz hfl (iv_v (wv 8))) iv_str (by rfl)) (iv_one (iv_cmpX (op := .Eq) hu (iv_meth0H (moH_cons T.cl_Kinds T.m_Kinds_kinds (factH_of (fnH_mono (k := 20) (okh_Kinds_kinds (P := P) (w := w) (base := base) T F_Kinds_kinds) (by decide)) b_Kinds_kinds rfl) moH_nil) (rmH _ hr) hcH takesN0 (iv_v (wv 2)) (by rfl)) (wb (cb_sortedH hcH) T.n_sorted (by decide +kernel) (ir_cons (wv 1) ir_nil (by rfl))) (by rfl)))))
      is_nil)))
    (is_cons (is_ret iv_bl)
    is_nil)))))))))
def m_Way_there : DSt :=
    (mSeq (mIfS (mCmpT (opCmpX .Eq) (mBin (opIx tabs) (mFld fld "form" (mVar 0)) (mC (.int 0))) (mC (.str "number"))) (mSeq (mRet (mBin opAdd (mBin opMul (mFld fld "factor" (mVar 0)) (mVar 1)) (mFld fld "more" (mVar 0))))
      mPass) mPass)
    (mSeq (mRet (mIte (mCmpT (opCmp .Is) (mFld fld "words" (mVar 0)) (mC .non)) (mVar 1) (mBin (opIx tabs) (mFld fld "words" (mVar 0)) (mVar 1))))
    mPass))
def run_Way_there : Run := fnRun N_Way_there.length m_Way_there
/- Way_there -/
theorem ok_Way_there (T : Txt K mg w) (F : FunD K "there" "Way.there" (defArgs s_Way_there) (defBody s_Way_there) (defScope s_Way_there) [] [] (He.fAd K ("Way", some "there")) fd) : FnG P w K mg base (L2N.CX P w) 1 (He.fAd K ("Way", some "there")) fd ps_Way_there (spI K ps_Way_there.length run_Way_there) := by
  refine okI F sc_Way_there fun cdv A outer s H E hr hG tk hp => ?_
  have hu := hu_of hr
  have hu1 := hu1_of hr
  have hu64 := hu64_of hr
  have hT := hTabs T
  have hF := hFld T
  exact (is_cons (is_if (iv_cmpXT (op := .Eq) hu (iv_ix hT hu (iv_fld hF (wv 0) rfl) iv_int (fun _ _ => rfl)) iv_str (by rfl)) (is_cons (is_ret (iv_op opAdd_ok (iv_op opMul_ok (iv_fld hF (wv 0) rfl) (wv 1)) (iv_fld hF (wv 0) rfl)))
      is_nil) is_nil)
    (is_cons (is_ret (iv_ite (iv_cmpT (op := .Is) hu (iv_fld hF (wv 0) rfl) iv_non (by rfl)) (wv 1) (iv_ix hT hu (iv_fld hF (wv 0) rfl) (wv 1) (fun _ _ => rfl))))
    is_nil))
def m_Way_line : DSt :=
    (mSeq (mRet (mMake "Way" run_Way___init__ [.non] 4 (mCons (mV (mFld fld "of" (mVar 0))) (mCons (mV (mFld fld "form" (mVar 0))) (mCons (mV (mBin opMul (mVar 1) (mFld fld "factor" (mVar 0)))) (mCons (mV (mBin opAdd (mBin opMul (mVar 1) (mFld fld "more" (mVar 0))) (mVar 2))) mNil))))))
    mPass)
def run_Way_line : Run := fnRun N_Way_line.length m_Way_line
/- Way_line -/
theorem ok_Way_line (T : Txt K mg w) (F : FunD K "line" "Way.line" (defArgs s_Way_line) (defBody s_Way_line) (defScope s_Way_line) [] [] (He.fAd K ("Way", some "line")) fd) : FnG P w K mg base (L2N.CX P w) 3 (He.fAd K ("Way", some "line")) fd ps_Way_line (spI K ps_Way_line.length run_Way_line) := by
  obtain ⟨fd_Way___init__, F_Way___init__⟩ := T.d_Way___init__
  have G_Way___init__ := (ok_Way___init__ (P := P) (w := w) (base := base) T F_Way___init__)
  have k_Way___init__ := F_Way___init__.kp
  obtain ⟨ds_Way___init___1, v_Way___init___1, b_Way___init___1⟩ := bj_Way___init___1 F_Way___init__
  obtain ⟨ds0_Way___init__, hd0_Way___init__, b_Way___init__⟩ := bj_Way___init___0 F_Way___init__
  cases hd0_Way___init__
  have vr_Way___init___1 : ∀ ι H, VRs K ι H [.non] [.non] := fun ι H => .cons .non (.nil)
  refine okI F sc_Way_line fun cdv A outer s H E hr hG tk hp => ?_
  have hu := hu_of hr
  have hu1 := hu1_of hr
  have hu64 := hu64_of hr
  have hT := hTabs T
  have hF := hFld T
  have hr1 := hr
  exact (is_cons (is_ret (iv_make rfl T.mk_Way (fact_dflt G_Way___init__ b_Way___init___1 vr_Way___init___1 v_Way___init___1 rfl) hr1 hG tk rfl T.g_Way (ia_cons (iv_v (iv_fld hF (wv 0) rfl)) (ia_cons (iv_v (iv_fld hF (wv 0) rfl)) (ia_cons (iv_v (iv_op opMul_ok (wv 1) (iv_fld hF (wv 0) rfl))) (ia_cons (iv_v (iv_op opAdd_ok (iv_op opMul_ok (wv 1) (iv_fld hF (wv 0) rfl)) (wv 2))) ia_nil (by rfl)) (by rfl)) (by rfl)) (by rfl)) (by decide) rfl rfl))
    is_nil)
def m_Kinds_check_shape : DSt :=
    (mSeq (mExpr (mMeth meth_check_kind_1 "check_kind" 1 (mV (mVar 0)) (mCons (mV (mVar 1)) mNil)))
    (mSeq (mIfS (mOrT (mNotT (mTru (mBlt bIsi (mConsR (mVar 2) (mConsR (mC (.ty "str")) mNilR))))) (mCmpT (opCmp .NotIn) (mVar 2) (mBin (opIx tabs) (mFld fld "ways" (mVar 0)) (mVar 1)))) (mSeq (mRaise "BadShape" 1 rs_BadShape (mCons (mV (mVar 2)) mNil))
      mPass) mPass)
    mPass))
def run_Kinds_check_shape : Run := fnRun N_Kinds_check_shape.length m_Kinds_check_shape
/- Kinds_check_shape -/
theorem ok_Kinds_check_shape (T : Txt K mg w) (F : FunD K "check_shape" "Kinds.check_shape" (defArgs s_Kinds_check_shape) (defBody s_Kinds_check_shape) (defScope s_Kinds_check_shape) [] [] (He.fAd K ("Kinds", some "check_shape")) fd) : FnG P w K mg base (L2N.CX P w) 5 (He.fAd K ("Kinds", some "check_shape")) fd ps_Kinds_check_shape (spI K ps_Kinds_check_shape.length run_Kinds_check_shape) := by
  obtain ⟨fd_Kinds_check_kind, F_Kinds_check_kind⟩ := T.d_Kinds_check_kind
  have G_Kinds_check_kind := (ok_Kinds_check_kind (P := P) (w := w) (base := base) T F_Kinds_check_kind)
  have k_Kinds_check_kind := F_Kinds_check_kind.kp
  have b_Kinds_check_kind := bi_Kinds_check_kind F_Kinds_check_kind
  refine okI F sc_Kinds_check_shape fun cdv A outer s H E hr hG tk hp => ?_
  have hu := hu_of hr
  have hu1 := hu1_of hr
  have hu64 := hu64_of hr
  have hT := hTabs T
  have hF := hFld T
  have hr2 := hr.mono (j := 3) (by first | decide | omega)
  exact (is_cons (is_expr (iv_meth (mo_cons T.cl_Kinds T.m_Kinds_check_kind (fact_of G_Kinds_check_kind b_Kinds_check_kind rfl) mo_nil) hr hG tk (iv_v (wv 0)) (ia_cons (iv_v (wv 1)) ia_nil (by rfl)) (by rfl) (by rfl) (by rfl)) (by rfl))
    (is_cons (is_if (PW.pt (iv_orT (iv_notT (iv_tru (wb cb_isi T.n_isinstance (by decide +kernel) (ir_cons (wv 2) (ir_cons (wty (by decide +kernel) T.n_str) ir_nil (by rfl)) (by rfl))) (by intro _; rfl))) (iv_or1 (iv_cmpT (op := .NotIn) hu (wv 2) (iv_ix hT hu (iv_fld hF (wv 0) rfl) (wv 1) (fun _ _ => rfl)) (by rfl))))) (is_cons (is_raise rfl tk (RO_BadShape T hr2 rfl) (ia_cons (iv_v (wv 2)) ia_nil (by rfl)) rfl rfl)
      is_nil) is_nil)
    is_nil))
def m_Kinds_to_shape : DSt :=
    (mSeq (mExpr (mCallF run__wall [] 1 (mCons (mV (mC (.int 0))) mNil)))
    mPass)
def run_Kinds_to_shape : Run := fnRun N_Kinds_to_shape.length m_Kinds_to_shape
/- Kinds_to_shape -/
theorem ok_Kinds_to_shape (T : Txt K mg w) (F : FunD K "to_shape" "Kinds.to_shape" (defArgs s_Kinds_to_shape) (defBody s_Kinds_to_shape) (defScope s_Kinds_to_shape) [] [] (He.fAd K ("Kinds", some "to_shape")) fd) : FnG P w K mg base (L2N.CX P w) 2 (He.fAd K ("Kinds", some "to_shape")) fd ps_Kinds_to_shape (spI K ps_Kinds_to_shape.length run_Kinds_to_shape) := by
  obtain ⟨fd__wall, F__wall⟩ := T.d__wall
  have G__wall := (ok__wall (P := P) (w := w) (base := base) T F__wall)
  have k__wall := F__wall.kp
  have b__wall := bi__wall F__wall
  refine okI F sc_Kinds_to_shape fun cdv A outer s H E hr hG tk hp => ?_
  have hu := hu_of hr
  have hu1 := hu1_of hr
  have hu64 := hu64_of hr
  have hT := hTabs T
  have hF := hFld T
  exact (is_cons (is_expr (iv_call (fact_of G__wall b__wall rfl) hr hG tk rfl T.g__wall k__wall (ia_cons (iv_v iv_int) ia_nil (by rfl)) (by decide) rfl rfl) (by rfl))
    is_nil)
def m_Kinds_from_shape : DSt :=
    (mSeq (mExpr (mCallF run__wall [] 1 (mCons (mV (mC (.int 1))) mNil)))
    mPass)
def run_Kinds_from_shape : Run := fnRun N_Kinds_from_shape.length m_Kinds_from_shape
/- Kinds_from_shape -/
theorem ok_Kinds_from_shape (T : Txt K mg w) (F : FunD K "from_shape" "Kinds.from_shape" (defArgs s_Kinds_from_shape) (defBody s_Kinds_from_shape) (defScope s_Kinds_from_shape) [] [] (He.fAd K ("Kinds", some "from_shape")) fd) : FnG P w K mg base (L2N.CX P w) 2 (He.fAd K ("Kinds", some "from_shape")) fd ps_Kinds_from_shape (spI K ps_Kinds_from_shape.length run_Kinds_from_shape) := by
  obtain ⟨fd__wall, F__wall⟩ := T.d__wall
  have G__wall := (ok__wall (P := P) (w := w) (base := base) T F__wall)
  have k__wall := F__wall.kp
  have b__wall := bi__wall F__wall
  refine okI F sc_Kinds_from_shape fun cdv A outer s H E hr hG tk hp => ?_
  have hu := hu_of hr
  have hu1 := hu1_of hr
  have hu64 := hu64_of hr
  have hT := hTabs T
  have hF := hFld T
  exact (is_cons (is_expr (iv_call (fact_of G__wall b__wall rfl) hr hG tk rfl T.g__wall k__wall (ia_cons (iv_v iv_int) ia_nil (by rfl)) (by decide) rfl rfl) (by rfl))
    is_nil)
def m_Kinds_unlike : DSt :=
    (mSeq (mExpr (mCallF run__wall [] 1 (mCons (mV (mC (.int 2))) mNil)))
    mPass)
def run_Kinds_unlike : Run := fnRun N_Kinds_unlike.length m_Kinds_unlike
/- Kinds_unlike -/
theorem ok_Kinds_unlike (T : Txt K mg w) (F : FunD K "unlike" "Kinds.unlike" (defArgs s_Kinds_unlike) (defBody s_Kinds_unlike) (defScope s_Kinds_unlike) [] [] (He.fAd K ("Kinds", some "unlike")) fd) : FnG P w K mg base (L2N.CX P w) 2 (He.fAd K ("Kinds", some "unlike")) fd ps_Kinds_unlike (spI K ps_Kinds_unlike.length run_Kinds_unlike) := by
  obtain ⟨fd__wall, F__wall⟩ := T.d__wall
  have G__wall := (ok__wall (P := P) (w := w) (base := base) T F__wall)
  have k__wall := F__wall.kp
  have b__wall := bi__wall F__wall
  refine okI F sc_Kinds_unlike fun cdv A outer s H E hr hG tk hp => ?_
  have hu := hu_of hr
  have hu1 := hu1_of hr
  have hu64 := hu64_of hr
  have hT := hTabs T
  have hF := hFld T
  exact (is_cons (is_expr (iv_call (fact_of G__wall b__wall rfl) hr hG tk rfl T.g__wall k__wall (ia_cons (iv_v iv_int) ia_nil (by rfl)) (by decide) rfl rfl) (by rfl))
    is_nil)
end
end
end Lk
end

section
set_option maxRecDepth 1000000
set_option maxHeartbeats 4000000
namespace Lk
open PySem PySem.Spec PyProof.Rows L2
noncomputable section
/-! ## k08: what the law's beginning leaves -/
def preL : DSt := (mSeq (mSet 1 (mV (mCallF run__law_makers [] 0 mNil))) (mSeq (mExpr (mUpd (mV (mVar 1)) (mCallF run__law_others [] 0 mNil))) (mSeq (mPars [2, 3] (mCons (mV (mMake "Kinds" run_Kinds___init__ [] 0 mNil)) (mCons (mV (mMake "Kinds" run_Kinds___init__ [] 0 mNil)) mNil))) (mSeq (mExpr (mMeth meth_add_3 "add" 3 (mV (mVar 3)) (mCons (mV (mC (.str "zoo"))) (mCons (mV (mLst mNil)) (mCons (mV (mLst mNil)) mNil))))) (mSeq (mIfS (mOrT (mCmpT (opCmpX .NotEq) (mMeth meth_kinds_0 "kinds" 0 (mV (mVar 2)) mNil) (mBlt bSorted (mConsR (mVar 1) mNilR))) (mCmpT (opCmpX .NotEq) (mMeth meth_kinds_0 "kinds" 0 (mV (mVar 3)) mNil) (mBlt bSorted (mConsR (mBin opAdd (mBlt bList (mConsR (mVar 1) mNilR)) (mLst (mCons (mV (mC (.str "zoo"))) mNil))) mNilR)))) (mSeq (mRet (mC (.bl false)))
      mPass) mPass) (mSeq (mExpr (mMt "list" gAppend (mV (mMeth meth_kinds_0 "kinds" 0 (mV (mVar 2)) mNil)) (mCons (mV (mC (.str "zoo"))) mNil))) mPass))))))
def dl0 (is : List Int) : DS := startD N_law.length [.scr is]
def mk0 : List DObj := [.lst [.tup [.str "template", .tup [.str "number", .int 0, .int 999999], .int 0, .bl true]],
  .lst [.tup [.str "template", .tup [.str "number", .int 0, .int 999999], .int 0, .bl false]],
  .lst [.tup [.str "replicas", .tup [.str "number", .int 0, .int 12], .int 1, .bl false]],
  .lst [.tup [.str "only", .tup [.str "name"], .str "", .bl true], .tup [.str "node", .tup [.str "name"], .str "", .bl false]],
  .lst [.tup [.str "cpu", .tup [.str "number", .int 0, .int 64], .int 0, .bl true], .tup [.str "mem", .tup [.str "number", .int 0, .int 64], .int 0, .bl true]],
  .lst [.tup [.str "cpu", .tup [.str "number", .int 0, .int 64], .int 0, .bl true], .tup [.str "mem", .tup [.str "number", .int 0, .int 64], .int 0, .bl true], .tup [.str "pick", .tup [.str "selector"], .str "", .bl true], .tup [.str "prio", .tup [.str "number", .int 0, .int 9], .int 0, .bl true], .tup [.str "template", .tup [.str "number", .int 0, .int 999999], .int 0, .bl true], .tup [.str "only", .tup [.str "name"], .str "", .bl true], .tup [.str "node", .tup [.str "name"], .str "", .bl false]],
  .lst [.tup [.str "phase", .tup [.str "word", .tup [.str "pending", .str "running", .str "ready", .str "done", .str "failed"]], .str "pending", .bl false], .tup [.str "wants", .tup [.str "name"], .str "", .bl false], .tup [.str "why", .tup [.str "text"], .str "", .bl false]],
  .dic false [(.inr "task", .tup [.obj 5, .obj 6]), (.inr "set", .tup [.obj 9, .obj 11]), (.inr "rollout", .tup [.obj 15, .obj 17]), (.inr "job", .tup [.obj 21, .obj 23]), (.inr "each", .tup [.obj 25, .obj 27]), (.inr "budget", .tup [.obj 29, .obj 30]), (.inr "quota", .tup [.obj 33, .obj 34]), (.inr "scaler", .tup [.obj 36, .obj 37]), (.inr "points", .tup [.obj 28, .obj 38]), (.inr "node", .tup [.obj 39, .obj 40]), (.inr "lease", .tup [.obj 42, .obj 43])],
  .lst [.tup [.str "cpu", .tup [.str "number", .int 0, .int 64], .int 0, .bl true], .tup [.str "mem", .tup [.str "number", .int 0, .int 64], .int 0, .bl true]],
  .lst [.tup [.str "cpu", .tup [.str "number", .int 0, .int 64], .int 0, .bl true], .tup [.str "mem", .tup [.str "number", .int 0, .int 64], .int 0, .bl true], .tup [.str "pick", .tup [.str "selector"], .str "", .bl true], .tup [.str "prio", .tup [.str "number", .int 0, .int 9], .int 0, .bl true], .tup [.str "template", .tup [.str "number", .int 0, .int 999999], .int 0, .bl true], .tup [.str "replicas", .tup [.str "number", .int 0, .int 12], .int 1, .bl false]],
  .lst [.str "made", .str "ready", .str "old"],
  .lst [.tup [.str "made", .tup [.str "number", .int 0, .int 99], .int 0, .bl false], .tup [.str "ready", .tup [.str "number", .int 0, .int 99], .int 0, .bl false], .tup [.str "old", .tup [.str "number", .int 0, .int 99], .int 0, .bl false]],
  .lst [.tup [.str "surge", .tup [.str "number", .int 0, .int 4], .int 1, .bl false], .tup [.str "down", .tup [.str "number", .int 0, .int 4], .int 0, .bl false]],
  .lst [.tup [.str "state", .tup [.str "word", .tup [.str "moving", .str "still"]], .str "moving", .bl false]],
  .lst [.tup [.str "cpu", .tup [.str "number", .int 0, .int 64], .int 0, .bl false], .tup [.str "mem", .tup [.str "number", .int 0, .int 64], .int 0, .bl false]],
  .lst [.tup [.str "cpu", .tup [.str "number", .int 0, .int 64], .int 0, .bl false], .tup [.str "mem", .tup [.str "number", .int 0, .int 64], .int 0, .bl false], .tup [.str "pick", .tup [.str "selector"], .str "", .bl false], .tup [.str "prio", .tup [.str "number", .int 0, .int 9], .int 0, .bl false], .tup [.str "template", .tup [.str "number", .int 0, .int 999999], .int 0, .bl false], .tup [.str "replicas", .tup [.str "number", .int 0, .int 12], .int 1, .bl false], .tup [.str "surge", .tup [.str "number", .int 0, .int 4], .int 1, .bl false], .tup [.str "down", .tup [.str "number", .int 0, .int 4], .int 0, .bl false]],
  .lst [.str "made", .str "ready"],
  .lst [.tup [.str "made", .tup [.str "number", .int 0, .int 99], .int 0, .bl false], .tup [.str "ready", .tup [.str "number", .int 0, .int 99], .int 0, .bl false], .tup [.str "state", .tup [.str "word", .tup [.str "moving", .str "still"]], .str "moving", .bl false]],
  .lst [.tup [.str "wanted", .tup [.str "number", .int 1, .int 8], .int 1, .bl true], .tup [.str "wide", .tup [.str "number", .int 1, .int 4], .int 1, .bl true], .tup [.str "tries", .tup [.str "number", .int 0, .int 4], .int 0, .bl true]],
  .lst [.tup [.str "state", .tup [.str "word", .tup [.str "on", .str "done", .str "failed"]], .str "on", .bl false]]]
def mk1 : List DObj := [.lst [.tup [.str "cpu", .tup [.str "number", .int 0, .int 64], .int 0, .bl true], .tup [.str "mem", .tup [.str "number", .int 0, .int 64], .int 0, .bl true]],
  .lst [.tup [.str "cpu", .tup [.str "number", .int 0, .int 64], .int 0, .bl true], .tup [.str "mem", .tup [.str "number", .int 0, .int 64], .int 0, .bl true], .tup [.str "pick", .tup [.str "selector"], .str "", .bl true], .tup [.str "prio", .tup [.str "number", .int 0, .int 9], .int 0, .bl true], .tup [.str "wanted", .tup [.str "number", .int 1, .int 8], .int 1, .bl true], .tup [.str "wide", .tup [.str "number", .int 1, .int 4], .int 1, .bl true], .tup [.str "tries", .tup [.str "number", .int 0, .int 4], .int 0, .bl true]],
  .lst [.str "done", .str "failed"],
  .lst [.tup [.str "done", .tup [.str "number", .int 0, .int 99], .int 0, .bl false], .tup [.str "failed", .tup [.str "number", .int 0, .int 99], .int 0, .bl false], .tup [.str "state", .tup [.str "word", .tup [.str "on", .str "done", .str "failed"]], .str "on", .bl false]],
  .lst [.tup [.str "cpu", .tup [.str "number", .int 0, .int 64], .int 0, .bl true], .tup [.str "mem", .tup [.str "number", .int 0, .int 64], .int 0, .bl true]],
  .lst [.tup [.str "cpu", .tup [.str "number", .int 0, .int 64], .int 0, .bl true], .tup [.str "mem", .tup [.str "number", .int 0, .int 64], .int 0, .bl true], .tup [.str "pick", .tup [.str "selector"], .str "", .bl true], .tup [.str "prio", .tup [.str "number", .int 0, .int 9], .int 0, .bl true], .tup [.str "template", .tup [.str "number", .int 0, .int 999999], .int 0, .bl true]],
  .lst [.str "made", .str "ready"],
  .lst [.tup [.str "made", .tup [.str "number", .int 0, .int 99], .int 0, .bl false], .tup [.str "ready", .tup [.str "number", .int 0, .int 99], .int 0, .bl false]],
  .lst [.tup [.str "match", .tup [.str "selector"], .str "", .bl false]],
  .lst [.tup [.str "match", .tup [.str "selector"], .str "", .bl false], .tup [.str "least", .tup [.str "number", .int 0, .int 12], .int 0, .bl false]],
  .lst [],
  .dic false [(.inr "budget", .tup [.obj 29, .obj 30]), (.inr "quota", .tup [.obj 33, .obj 34]), (.inr "scaler", .tup [.obj 36, .obj 37]), (.inr "points", .tup [.obj 28, .obj 38]), (.inr "node", .tup [.obj 39, .obj 40]), (.inr "lease", .tup [.obj 42, .obj 43])],
  .lst [.tup [.str "most", .tup [.str "number", .int 0, .int 40], .int 40, .bl false], .tup [.str "cpu", .tup [.str "number", .int 0, .int 999], .int 999, .bl false]],
  .lst [.tup [.str "of", .tup [.str "name"], .str "task", .bl false], .tup [.str "most", .tup [.str "number", .int 0, .int 40], .int 40, .bl false], .tup [.str "cpu", .tup [.str "number", .int 0, .int 999], .int 999, .bl false]],
  .lst [],
  .lst [.tup [.str "kind", .tup [.str "word", .tup [.str "set", .str "rollout"]], .str "rollout", .bl false], .tup [.str "target", .tup [.str "name"], .str "", .bl false]],
  .lst [.tup [.str "kind", .tup [.str "word", .tup [.str "set", .str "rollout"]], .str "rollout", .bl false], .tup [.str "target", .tup [.str "name"], .str "", .bl false], .tup [.str "low", .tup [.str "number", .int 0, .int 12], .int 1, .bl false], .tup [.str "high", .tup [.str "number", .int 0, .int 12], .int 12, .bl false], .tup [.str "aim", .tup [.str "number", .int 1, .int 100], .int 50, .bl false]],
  .lst [.tup [.str "load", .tup [.str "number", .int 0, .int 9999], .int 0, .bl false]],
  .lst [.tup [.str "ready", .tup [.str "text"], .str "", .bl false]],
  .lst [.tup [.str "cpu", .tup [.str "number", .int 0, .int 64], .int 0, .bl false], .tup [.str "mem", .tup [.str "number", .int 0, .int 64], .int 0, .bl false]]]
def mk2 : List DObj := [.lst [.tup [.str "seen", .tup [.str "number", .int 0, .int 999999], .int 0, .bl false], .tup [.str "state", .tup [.str "word", .tup [.str "up", .str "silent"]], .str "up", .bl false]],
  .lst [.tup [.str "holder", .tup [.str "name"], .str "", .bl false], .tup [.str "renewed", .tup [.str "number", .int 0, .int 999999], .int 0, .bl false]],
  .lst [.tup [.str "holder", .tup [.str "name"], .str "", .bl false], .tup [.str "renewed", .tup [.str "number", .int 0, .int 999999], .int 0, .bl false], .tup [.str "length", .tup [.str "number", .int 1, .int 999], .int 10, .bl false], .tup [.str "wait", .tup [.str "number", .int 1, .int 999], .int 20, .bl false]],
  .lst [],
  .ins "Kinds" [("ways", .obj 45), ("rows", .obj 46)],
  .dic false [(.inr "task", .obj 94), (.inr "set", .obj 105), (.inr "rollout", .obj 118), (.inr "job", .obj 130), (.inr "each", .obj 140), (.inr "budget", .obj 147), (.inr "quota", .obj 155), (.inr "scaler", .obj 165), (.inr "points", .obj 171), (.inr "node", .obj 178), (.inr "lease", .obj 187)],
  .dic false [(.inr "task", .tup [.obj 83, .obj 84]), (.inr "set", .tup [.obj 95, .obj 96]), (.inr "rollout", .tup [.obj 106, .obj 107]), (.inr "job", .tup [.obj 119, .obj 120]), (.inr "each", .tup [.obj 131, .obj 132]), (.inr "budget", .tup [.obj 141, .obj 142]), (.inr "quota", .tup [.obj 148, .obj 149]), (.inr "scaler", .tup [.obj 156, .obj 157]), (.inr "points", .tup [.obj 166, .obj 167]), (.inr "node", .tup [.obj 172, .obj 173]), (.inr "lease", .tup [.obj 179, .obj 180])],
  .dic false [(.inr "task", .tup [.obj 49, .obj 50]), (.inr "set", .tup [.obj 52, .obj 54]), (.inr "rollout", .tup [.obj 57, .obj 59]), (.inr "job", .tup [.obj 62, .obj 64]), (.inr "each", .tup [.obj 66, .obj 68])],
  .lst [.tup [.str "cpu", .tup [.str "number", .int 0, .int 64], .int 0, .bl true], .tup [.str "mem", .tup [.str "number", .int 0, .int 64], .int 0, .bl true], .tup [.str "prio", .tup [.str "number", .int 0, .int 9], .int 0, .bl true], .tup [.str "pick", .tup [.str "selector"], .str "", .bl true]],
  .lst [.tup [.str "cpu", .tup [.str "number", .int 0, .int 64], .int 0, .bl true], .tup [.str "mem", .tup [.str "number", .int 0, .int 64], .int 0, .bl true], .tup [.str "prio", .tup [.str "number", .int 0, .int 9], .int 0, .bl true], .tup [.str "pick", .tup [.str "selector"], .str "", .bl true], .tup [.str "template", .tup [.str "number", .int 0, .int 999999], .int 0, .bl true], .tup [.str "only", .tup [.str "name"], .str "", .bl true], .tup [.str "node", .tup [.str "name"], .str "", .bl false]],
  .lst [.tup [.str "phase", .tup [.str "word", .tup [.str "pending", .str "running", .str "ready", .str "done", .str "failed"]], .str "pending", .bl false], .tup [.str "wants", .tup [.str "name"], .str "", .bl false], .tup [.str "why", .tup [.str "text"], .str "", .bl false]],
  .lst [.tup [.str "cpu", .tup [.str "number", .int 0, .int 64], .int 0, .bl true], .tup [.str "mem", .tup [.str "number", .int 0, .int 64], .int 0, .bl true], .tup [.str "prio", .tup [.str "number", .int 0, .int 9], .int 0, .bl true], .tup [.str "pick", .tup [.str "selector"], .str "", .bl true]],
  .lst [.tup [.str "cpu", .tup [.str "number", .int 0, .int 64], .int 0, .bl true], .tup [.str "mem", .tup [.str "number", .int 0, .int 64], .int 0, .bl true], .tup [.str "prio", .tup [.str "number", .int 0, .int 9], .int 0, .bl true], .tup [.str "pick", .tup [.str "selector"], .str "", .bl true], .tup [.str "template", .tup [.str "number", .int 0, .int 999999], .int 0, .bl true], .tup [.str "replicas", .tup [.str "number", .int 0, .int 12], .int 1, .bl false]],
  .lst [.str "made", .str "ready", .str "old"],
  .lst [.tup [.str "made", .tup [.str "number", .int 0, .int 99], .int 0, .bl false], .tup [.str "ready", .tup [.str "number", .int 0, .int 99], .int 0, .bl false], .tup [.str "old", .tup [.str "number", .int 0, .int 99], .int 0, .bl false]],
  .lst [.tup [.str "replicas", .tup [.str "number", .int 0, .int 12], .int 1, .bl false], .tup [.str "surge", .tup [.str "number", .int 0, .int 4], .int 1, .bl false], .tup [.str "down", .tup [.str "number", .int 0, .int 4], .int 0, .bl false]],
  .lst [.tup [.str "cpu", .tup [.str "number", .int 0, .int 64], .int 0, .bl false], .tup [.str "mem", .tup [.str "number", .int 0, .int 64], .int 0, .bl false], .tup [.str "prio", .tup [.str "number", .int 0, .int 9], .int 0, .bl false], .tup [.str "pick", .tup [.str "selector"], .str "", .bl false]],
  .lst [.tup [.str "cpu", .tup [.str "number", .int 0, .int 64], .int 0, .bl false], .tup [.str "mem", .tup [.str "number", .int 0, .int 64], .int 0, .bl false], .tup [.str "prio", .tup [.str "number", .int 0, .int 9], .int 0, .bl false], .tup [.str "pick", .tup [.str "selector"], .str "", .bl false], .tup [.str "template", .tup [.str "number", .int 0, .int 999999], .int 0, .bl false], .tup [.str "replicas", .tup [.str "number", .int 0, .int 12], .int 1, .bl false], .tup [.str "surge", .tup [.str "number", .int 0, .int 4], .int 1, .bl false], .tup [.str "down", .tup [.str "number", .int 0, .int 4], .int 0, .bl false]],
  .lst [.str "made", .str "ready"],
  .lst [.tup [.str "made", .tup [.str "number", .int 0, .int 99], .int 0, .bl false], .tup [.str "ready", .tup [.str "number", .int 0, .int 99], .int 0, .bl false], .tup [.str "state", .tup [.str "word", .tup [.str "moving", .str "still"]], .str "moving", .bl false]]]
def mk3 : List DObj := [.lst [.tup [.str "wanted", .tup [.str "number", .int 1, .int 8], .int 1, .bl true], .tup [.str "wide", .tup [.str "number", .int 1, .int 4], .int 1, .bl true], .tup [.str "tries", .tup [.str "number", .int 0, .int 4], .int 0, .bl true]],
  .lst [.tup [.str "cpu", .tup [.str "number", .int 0, .int 64], .int 0, .bl true], .tup [.str "mem", .tup [.str "number", .int 0, .int 64], .int 0, .bl true], .tup [.str "prio", .tup [.str "number", .int 0, .int 9], .int 0, .bl true], .tup [.str "pick", .tup [.str "selector"], .str "", .bl true]],
  .lst [.tup [.str "cpu", .tup [.str "number", .int 0, .int 64], .int 0, .bl true], .tup [.str "mem", .tup [.str "number", .int 0, .int 64], .int 0, .bl true], .tup [.str "prio", .tup [.str "number", .int 0, .int 9], .int 0, .bl true], .tup [.str "pick", .tup [.str "selector"], .str "", .bl true], .tup [.str "wanted", .tup [.str "number", .int 1, .int 8], .int 1, .bl true], .tup [.str "wide", .tup [.str "number", .int 1, .int 4], .int 1, .bl true], .tup [.str "tries", .tup [.str "number", .int 0, .int 4], .int 0, .bl true]],
  .lst [.str "done", .str "failed"],
  .lst [.tup [.str "done", .tup [.str "number", .int 0, .int 99], .int 0, .bl false], .tup [.str "failed", .tup [.str "number", .int 0, .int 99], .int 0, .bl false], .tup [.str "state", .tup [.str "word", .tup [.str "on", .str "done", .str "failed"]], .str "on", .bl false]],
  .lst [.tup [.str "cpu", .tup [.str "number", .int 0, .int 64], .int 0, .bl true], .tup [.str "mem", .tup [.str "number", .int 0, .int 64], .int 0, .bl true], .tup [.str "prio", .tup [.str "number", .int 0, .int 9], .int 0, .bl true], .tup [.str "pick", .tup [.str "selector"], .str "", .bl true]],
  .lst [.tup [.str "cpu", .tup [.str "number", .int 0, .int 64], .int 0, .bl true], .tup [.str "mem", .tup [.str "number", .int 0, .int 64], .int 0, .bl true], .tup [.str "prio", .tup [.str "number", .int 0, .int 9], .int 0, .bl true], .tup [.str "pick", .tup [.str "selector"], .str "", .bl true], .tup [.str "template", .tup [.str "number", .int 0, .int 999999], .int 0, .bl true]],
  .lst [.str "made", .str "ready"],
  .lst [.tup [.str "made", .tup [.str "number", .int 0, .int 99], .int 0, .bl false], .tup [.str "ready", .tup [.str "number", .int 0, .int 99], .int 0, .bl false]],
  .dic false [(.inr "budget", .tup [.obj 70, .obj 71]), (.inr "quota", .tup [.obj 73, .obj 74]), (.inr "scaler", .tup [.obj 75, .obj 76]), (.inr "points", .tup [.obj 77, .obj 78]), (.inr "node", .tup [.obj 79, .obj 80]), (.inr "lease", .tup [.obj 81, .obj 82])],
  .lst [.tup [.str "match", .tup [.str "selector"], .str "", .bl false], .tup [.str "least", .tup [.str "number", .int 0, .int 12], .int 0, .bl false]],
  .lst [],
  .lst [.tup [.str "most", .tup [.str "number", .int 0, .int 40], .int 40, .bl false], .tup [.str "cpu", .tup [.str "number", .int 0, .int 999], .int 999, .bl false]],
  .lst [.tup [.str "of", .tup [.str "name"], .str "task", .bl false], .tup [.str "most", .tup [.str "number", .int 0, .int 40], .int 40, .bl false], .tup [.str "cpu", .tup [.str "number", .int 0, .int 999], .int 999, .bl false]],
  .lst [],
  .lst [.tup [.str "kind", .tup [.str "word", .tup [.str "set", .str "rollout"]], .str "rollout", .bl false], .tup [.str "target", .tup [.str "name"], .str "", .bl false], .tup [.str "low", .tup [.str "number", .int 0, .int 12], .int 1, .bl false], .tup [.str "high", .tup [.str "number", .int 0, .int 12], .int 12, .bl false], .tup [.str "aim", .tup [.str "number", .int 1, .int 100], .int 50, .bl false]],
  .lst [.tup [.str "load", .tup [.str "number", .int 0, .int 9999], .int 0, .bl false]],
  .lst [.tup [.str "match", .tup [.str "selector"], .str "", .bl false]],
  .lst [.tup [.str "ready", .tup [.str "text"], .str "", .bl false]],
  .lst [.tup [.str "cpu", .tup [.str "number", .int 0, .int 64], .int 0, .bl false], .tup [.str "mem", .tup [.str "number", .int 0, .int 64], .int 0, .bl false]]]
def mk4 : List DObj := [.lst [.tup [.str "seen", .tup [.str "number", .int 0, .int 999999], .int 0, .bl false], .tup [.str "state", .tup [.str "word", .tup [.str "up", .str "silent"]], .str "up", .bl false]],
  .lst [.tup [.str "holder", .tup [.str "name"], .str "", .bl false], .tup [.str "renewed", .tup [.str "number", .int 0, .int 999999], .int 0, .bl false], .tup [.str "length", .tup [.str "number", .int 1, .int 999], .int 10, .bl false], .tup [.str "wait", .tup [.str "number", .int 1, .int 999], .int 20, .bl false]],
  .lst [],
  .dic false [(.inr "cpu", .tup [.str "cpu", .tup [.str "number", .int 0, .int 64], .int 0, .bl true]), (.inr "mem", .tup [.str "mem", .tup [.str "number", .int 0, .int 64], .int 0, .bl true]), (.inr "prio", .tup [.str "prio", .tup [.str "number", .int 0, .int 9], .int 0, .bl true]), (.inr "pick", .tup [.str "pick", .tup [.str "selector"], .str "", .bl true]), (.inr "template", .tup [.str "template", .tup [.str "number", .int 0, .int 999999], .int 0, .bl true]), (.inr "only", .tup [.str "only", .tup [.str "name"], .str "", .bl true]), (.inr "node", .tup [.str "node", .tup [.str "name"], .str "", .bl false])],
  .dic false [(.inr "phase", .tup [.str "phase", .tup [.str "word", .tup [.str "pending", .str "running", .str "ready", .str "done", .str "failed"]], .str "pending", .bl false]), (.inr "wants", .tup [.str "wants", .tup [.str "name"], .str "", .bl false]), (.inr "why", .tup [.str "why", .tup [.str "text"], .str "", .bl false])],
  .dic false [(.inr "cpu", .tup [.str "number", .int 0, .int 64]), (.inr "mem", .tup [.str "number", .int 0, .int 64]), (.inr "prio", .tup [.str "number", .int 0, .int 9]), (.inr "pick", .tup [.str "selector"]), (.inr "template", .tup [.str "number", .int 0, .int 999999]), (.inr "only", .tup [.str "name"]), (.inr "node", .tup [.str "name"])],
  .ins "Way" [("of", .str "cpu"), ("form", .tup [.str "number", .int 0, .int 64]), ("factor", .int 1), ("more", .int 0), ("words", .non)],
  .ins "Way" [("of", .str "mem"), ("form", .tup [.str "number", .int 0, .int 64]), ("factor", .int 1), ("more", .int 0), ("words", .non)],
  .ins "Way" [("of", .str "prio"), ("form", .tup [.str "number", .int 0, .int 9]), ("factor", .int 1), ("more", .int 0), ("words", .non)],
  .ins "Way" [("of", .str "pick"), ("form", .tup [.str "selector"]), ("factor", .int 1), ("more", .int 0), ("words", .non)],
  .ins "Way" [("of", .str "template"), ("form", .tup [.str "number", .int 0, .int 999999]), ("factor", .int 1), ("more", .int 0), ("words", .non)],
  .ins "Way" [("of", .str "only"), ("form", .tup [.str "name"]), ("factor", .int 1), ("more", .int 0), ("words", .non)],
  .ins "Way" [("of", .str "node"), ("form", .tup [.str "name"]), ("factor", .int 1), ("more", .int 0), ("words", .non)],
  .dic false [(.inr "cpu", .obj 86), (.inr "mem", .obj 87), (.inr "prio", .obj 88), (.inr "pick", .obj 89), (.inr "template", .obj 90), (.inr "only", .obj 91), (.inr "node", .obj 92)],
  .dic false [(.inr "hub", .obj 93)],
  .dic false [(.inr "cpu", .tup [.str "cpu", .tup [.str "number", .int 0, .int 64], .int 0, .bl true]), (.inr "mem", .tup [.str "mem", .tup [.str "number", .int 0, .int 64], .int 0, .bl true]), (.inr "prio", .tup [.str "prio", .tup [.str "number", .int 0, .int 9], .int 0, .bl true]), (.inr "pick", .tup [.str "pick", .tup [.str "selector"], .str "", .bl true]), (.inr "template", .tup [.str "template", .tup [.str "number", .int 0, .int 999999], .int 0, .bl true]), (.inr "replicas", .tup [.str "replicas", .tup [.str "number", .int 0, .int 12], .int 1, .bl false])],
  .dic false [(.inr "made", .tup [.str "made", .tup [.str "number", .int 0, .int 99], .int 0, .bl false]), (.inr "ready", .tup [.str "ready", .tup [.str "number", .int 0, .int 99], .int 0, .bl false]), (.inr "old", .tup [.str "old", .tup [.str "number", .int 0, .int 99], .int 0, .bl false])],
  .dic false [(.inr "cpu", .tup [.str "number", .int 0, .int 64]), (.inr "mem", .tup [.str "number", .int 0, .int 64]), (.inr "prio", .tup [.str "number", .int 0, .int 9]), (.inr "pick", .tup [.str "selector"]), (.inr "template", .tup [.str "number", .int 0, .int 999999]), (.inr "replicas", .tup [.str "number", .int 0, .int 12])],
  .ins "Way" [("of", .str "cpu"), ("form", .tup [.str "number", .int 0, .int 64]), ("factor", .int 1), ("more", .int 0), ("words", .non)],
  .ins "Way" [("of", .str "mem"), ("form", .tup [.str "number", .int 0, .int 64]), ("factor", .int 1), ("more", .int 0), ("words", .non)]]
def mk5 : List DObj := [.ins "Way" [("of", .str "prio"), ("form", .tup [.str "number", .int 0, .int 9]), ("factor", .int 1), ("more", .int 0), ("words", .non)],
  .ins "Way" [("of", .str "pick"), ("form", .tup [.str "selector"]), ("factor", .int 1), ("more", .int 0), ("words", .non)],
  .ins "Way" [("of", .str "template"), ("form", .tup [.str "number", .int 0, .int 999999]), ("factor", .int 1), ("more", .int 0), ("words", .non)],
  .ins "Way" [("of", .str "replicas"), ("form", .tup [.str "number", .int 0, .int 12]), ("factor", .int 1), ("more", .int 0), ("words", .non)],
  .dic false [(.inr "cpu", .obj 98), (.inr "mem", .obj 99), (.inr "prio", .obj 100), (.inr "pick", .obj 101), (.inr "template", .obj 102), (.inr "replicas", .obj 103)],
  .dic false [(.inr "hub", .obj 104)],
  .dic false [(.inr "cpu", .tup [.str "cpu", .tup [.str "number", .int 0, .int 64], .int 0, .bl false]), (.inr "mem", .tup [.str "mem", .tup [.str "number", .int 0, .int 64], .int 0, .bl false]), (.inr "prio", .tup [.str "prio", .tup [.str "number", .int 0, .int 9], .int 0, .bl false]), (.inr "pick", .tup [.str "pick", .tup [.str "selector"], .str "", .bl false]), (.inr "template", .tup [.str "template", .tup [.str "number", .int 0, .int 999999], .int 0, .bl false]), (.inr "replicas", .tup [.str "replicas", .tup [.str "number", .int 0, .int 12], .int 1, .bl false]), (.inr "surge", .tup [.str "surge", .tup [.str "number", .int 0, .int 4], .int 1, .bl false]), (.inr "down", .tup [.str "down", .tup [.str "number", .int 0, .int 4], .int 0, .bl false])],
  .dic false [(.inr "made", .tup [.str "made", .tup [.str "number", .int 0, .int 99], .int 0, .bl false]), (.inr "ready", .tup [.str "ready", .tup [.str "number", .int 0, .int 99], .int 0, .bl false]), (.inr "state", .tup [.str "state", .tup [.str "word", .tup [.str "moving", .str "still"]], .str "moving", .bl false])],
  .dic false [(.inr "cpu", .tup [.str "number", .int 0, .int 64]), (.inr "mem", .tup [.str "number", .int 0, .int 64]), (.inr "prio", .tup [.str "number", .int 0, .int 9]), (.inr "pick", .tup [.str "selector"]), (.inr "template", .tup [.str "number", .int 0, .int 999999]), (.inr "replicas", .tup [.str "number", .int 0, .int 12]), (.inr "surge", .tup [.str "number", .int 0, .int 4]), (.inr "down", .tup [.str "number", .int 0, .int 4])],
  .ins "Way" [("of", .str "cpu"), ("form", .tup [.str "number", .int 0, .int 64]), ("factor", .int 1), ("more", .int 0), ("words", .non)],
  .ins "Way" [("of", .str "mem"), ("form", .tup [.str "number", .int 0, .int 64]), ("factor", .int 1), ("more", .int 0), ("words", .non)],
  .ins "Way" [("of", .str "prio"), ("form", .tup [.str "number", .int 0, .int 9]), ("factor", .int 1), ("more", .int 0), ("words", .non)],
  .ins "Way" [("of", .str "pick"), ("form", .tup [.str "selector"]), ("factor", .int 1), ("more", .int 0), ("words", .non)],
  .ins "Way" [("of", .str "template"), ("form", .tup [.str "number", .int 0, .int 999999]), ("factor", .int 1), ("more", .int 0), ("words", .non)],
  .ins "Way" [("of", .str "replicas"), ("form", .tup [.str "number", .int 0, .int 12]), ("factor", .int 1), ("more", .int 0), ("words", .non)],
  .ins "Way" [("of", .str "surge"), ("form", .tup [.str "number", .int 0, .int 4]), ("factor", .int 1), ("more", .int 0), ("words", .non)],
  .ins "Way" [("of", .str "down"), ("form", .tup [.str "number", .int 0, .int 4]), ("factor", .int 1), ("more", .int 0), ("words", .non)],
  .dic false [(.inr "cpu", .obj 109), (.inr "mem", .obj 110), (.inr "prio", .obj 111), (.inr "pick", .obj 112), (.inr "template", .obj 113), (.inr "replicas", .obj 114), (.inr "surge", .obj 115), (.inr "down", .obj 116)],
  .dic false [(.inr "hub", .obj 117)],
  .dic false [(.inr "cpu", .tup [.str "cpu", .tup [.str "number", .int 0, .int 64], .int 0, .bl true]), (.inr "mem", .tup [.str "mem", .tup [.str "number", .int 0, .int 64], .int 0, .bl true]), (.inr "prio", .tup [.str "prio", .tup [.str "number", .int 0, .int 9], .int 0, .bl true]), (.inr "pick", .tup [.str "pick", .tup [.str "selector"], .str "", .bl true]), (.inr "wanted", .tup [.str "wanted", .tup [.str "number", .int 1, .int 8], .int 1, .bl true]), (.inr "wide", .tup [.str "wide", .tup [.str "number", .int 1, .int 4], .int 1, .bl true]), (.inr "tries", .tup [.str "tries", .tup [.str "number", .int 0, .int 4], .int 0, .bl true])]]
def mk6 : List DObj := [.dic false [(.inr "done", .tup [.str "done", .tup [.str "number", .int 0, .int 99], .int 0, .bl false]), (.inr "failed", .tup [.str "failed", .tup [.str "number", .int 0, .int 99], .int 0, .bl false]), (.inr "state", .tup [.str "state", .tup [.str "word", .tup [.str "on", .str "done", .str "failed"]], .str "on", .bl false])],
  .dic false [(.inr "cpu", .tup [.str "number", .int 0, .int 64]), (.inr "mem", .tup [.str "number", .int 0, .int 64]), (.inr "prio", .tup [.str "number", .int 0, .int 9]), (.inr "pick", .tup [.str "selector"]), (.inr "wanted", .tup [.str "number", .int 1, .int 8]), (.inr "wide", .tup [.str "number", .int 1, .int 4]), (.inr "tries", .tup [.str "number", .int 0, .int 4])],
  .ins "Way" [("of", .str "cpu"), ("form", .tup [.str "number", .int 0, .int 64]), ("factor", .int 1), ("more", .int 0), ("words", .non)],
  .ins "Way" [("of", .str "mem"), ("form", .tup [.str "number", .int 0, .int 64]), ("factor", .int 1), ("more", .int 0), ("words", .non)],
  .ins "Way" [("of", .str "prio"), ("form", .tup [.str "number", .int 0, .int 9]), ("factor", .int 1), ("more", .int 0), ("words", .non)],
  .ins "Way" [("of", .str "pick"), ("form", .tup [.str "selector"]), ("factor", .int 1), ("more", .int 0), ("words", .non)],
  .ins "Way" [("of", .str "wanted"), ("form", .tup [.str "number", .int 1, .int 8]), ("factor", .int 1), ("more", .int 0), ("words", .non)],
  .ins "Way" [("of", .str "wide"), ("form", .tup [.str "number", .int 1, .int 4]), ("factor", .int 1), ("more", .int 0), ("words", .non)],
  .ins "Way" [("of", .str "tries"), ("form", .tup [.str "number", .int 0, .int 4]), ("factor", .int 1), ("more", .int 0), ("words", .non)],
  .dic false [(.inr "cpu", .obj 122), (.inr "mem", .obj 123), (.inr "prio", .obj 124), (.inr "pick", .obj 125), (.inr "wanted", .obj 126), (.inr "wide", .obj 127), (.inr "tries", .obj 128)],
  .dic false [(.inr "hub", .obj 129)],
  .dic false [(.inr "cpu", .tup [.str "cpu", .tup [.str "number", .int 0, .int 64], .int 0, .bl true]), (.inr "mem", .tup [.str "mem", .tup [.str "number", .int 0, .int 64], .int 0, .bl true]), (.inr "prio", .tup [.str "prio", .tup [.str "number", .int 0, .int 9], .int 0, .bl true]), (.inr "pick", .tup [.str "pick", .tup [.str "selector"], .str "", .bl true]), (.inr "template", .tup [.str "template", .tup [.str "number", .int 0, .int 999999], .int 0, .bl true])],
  .dic false [(.inr "made", .tup [.str "made", .tup [.str "number", .int 0, .int 99], .int 0, .bl false]), (.inr "ready", .tup [.str "ready", .tup [.str "number", .int 0, .int 99], .int 0, .bl false])],
  .dic false [(.inr "cpu", .tup [.str "number", .int 0, .int 64]), (.inr "mem", .tup [.str "number", .int 0, .int 64]), (.inr "prio", .tup [.str "number", .int 0, .int 9]), (.inr "pick", .tup [.str "selector"]), (.inr "template", .tup [.str "number", .int 0, .int 999999])],
  .ins "Way" [("of", .str "cpu"), ("form", .tup [.str "number", .int 0, .int 64]), ("factor", .int 1), ("more", .int 0), ("words", .non)],
  .ins "Way" [("of", .str "mem"), ("form", .tup [.str "number", .int 0, .int 64]), ("factor", .int 1), ("more", .int 0), ("words", .non)],
  .ins "Way" [("of", .str "prio"), ("form", .tup [.str "number", .int 0, .int 9]), ("factor", .int 1), ("more", .int 0), ("words", .non)],
  .ins "Way" [("of", .str "pick"), ("form", .tup [.str "selector"]), ("factor", .int 1), ("more", .int 0), ("words", .non)],
  .ins "Way" [("of", .str "template"), ("form", .tup [.str "number", .int 0, .int 999999]), ("factor", .int 1), ("more", .int 0), ("words", .non)],
  .dic false [(.inr "cpu", .obj 134), (.inr "mem", .obj 135), (.inr "prio", .obj 136), (.inr "pick", .obj 137), (.inr "template", .obj 138)]]
def mk7 : List DObj := [.dic false [(.inr "hub", .obj 139)],
  .dic false [(.inr "match", .tup [.str "match", .tup [.str "selector"], .str "", .bl false]), (.inr "least", .tup [.str "least", .tup [.str "number", .int 0, .int 12], .int 0, .bl false])],
  .dic false [],
  .dic false [(.inr "match", .tup [.str "selector"]), (.inr "least", .tup [.str "number", .int 0, .int 12])],
  .ins "Way" [("of", .str "match"), ("form", .tup [.str "selector"]), ("factor", .int 1), ("more", .int 0), ("words", .non)],
  .ins "Way" [("of", .str "least"), ("form", .tup [.str "number", .int 0, .int 12]), ("factor", .int 1), ("more", .int 0), ("words", .non)],
  .dic false [(.inr "match", .obj 144), (.inr "least", .obj 145)],
  .dic false [(.inr "hub", .obj 146)],
  .dic false [(.inr "of", .tup [.str "of", .tup [.str "name"], .str "task", .bl false]), (.inr "most", .tup [.str "most", .tup [.str "number", .int 0, .int 40], .int 40, .bl false]), (.inr "cpu", .tup [.str "cpu", .tup [.str "number", .int 0, .int 999], .int 999, .bl false])],
  .dic false [],
  .dic false [(.inr "of", .tup [.str "name"]), (.inr "most", .tup [.str "number", .int 0, .int 40]), (.inr "cpu", .tup [.str "number", .int 0, .int 999])],
  .ins "Way" [("of", .str "of"), ("form", .tup [.str "name"]), ("factor", .int 1), ("more", .int 0), ("words", .non)],
  .ins "Way" [("of", .str "most"), ("form", .tup [.str "number", .int 0, .int 40]), ("factor", .int 1), ("more", .int 0), ("words", .non)],
  .ins "Way" [("of", .str "cpu"), ("form", .tup [.str "number", .int 0, .int 999]), ("factor", .int 1), ("more", .int 0), ("words", .non)],
  .dic false [(.inr "of", .obj 151), (.inr "most", .obj 152), (.inr "cpu", .obj 153)],
  .dic false [(.inr "hub", .obj 154)],
  .dic false [(.inr "kind", .tup [.str "kind", .tup [.str "word", .tup [.str "set", .str "rollout"]], .str "rollout", .bl false]), (.inr "target", .tup [.str "target", .tup [.str "name"], .str "", .bl false]), (.inr "low", .tup [.str "low", .tup [.str "number", .int 0, .int 12], .int 1, .bl false]), (.inr "high", .tup [.str "high", .tup [.str "number", .int 0, .int 12], .int 12, .bl false]), (.inr "aim", .tup [.str "aim", .tup [.str "number", .int 1, .int 100], .int 50, .bl false])],
  .dic false [(.inr "load", .tup [.str "load", .tup [.str "number", .int 0, .int 9999], .int 0, .bl false])],
  .dic false [(.inr "kind", .tup [.str "word", .tup [.str "set", .str "rollout"]]), (.inr "target", .tup [.str "name"]), (.inr "low", .tup [.str "number", .int 0, .int 12]), (.inr "high", .tup [.str "number", .int 0, .int 12]), (.inr "aim", .tup [.str "number", .int 1, .int 100])],
  .ins "Way" [("of", .str "kind"), ("form", .tup [.str "word", .tup [.str "set", .str "rollout"]]), ("factor", .int 1), ("more", .int 0), ("words", .non)]]
def mk8 : List DObj := [.ins "Way" [("of", .str "target"), ("form", .tup [.str "name"]), ("factor", .int 1), ("more", .int 0), ("words", .non)],
  .ins "Way" [("of", .str "low"), ("form", .tup [.str "number", .int 0, .int 12]), ("factor", .int 1), ("more", .int 0), ("words", .non)],
  .ins "Way" [("of", .str "high"), ("form", .tup [.str "number", .int 0, .int 12]), ("factor", .int 1), ("more", .int 0), ("words", .non)],
  .ins "Way" [("of", .str "aim"), ("form", .tup [.str "number", .int 1, .int 100]), ("factor", .int 1), ("more", .int 0), ("words", .non)],
  .dic false [(.inr "kind", .obj 159), (.inr "target", .obj 160), (.inr "low", .obj 161), (.inr "high", .obj 162), (.inr "aim", .obj 163)],
  .dic false [(.inr "hub", .obj 164)],
  .dic false [(.inr "match", .tup [.str "match", .tup [.str "selector"], .str "", .bl false])],
  .dic false [(.inr "ready", .tup [.str "ready", .tup [.str "text"], .str "", .bl false])],
  .dic false [(.inr "match", .tup [.str "selector"])],
  .ins "Way" [("of", .str "match"), ("form", .tup [.str "selector"]), ("factor", .int 1), ("more", .int 0), ("words", .non)],
  .dic false [(.inr "match", .obj 169)],
  .dic false [(.inr "hub", .obj 170)],
  .dic false [(.inr "cpu", .tup [.str "cpu", .tup [.str "number", .int 0, .int 64], .int 0, .bl false]), (.inr "mem", .tup [.str "mem", .tup [.str "number", .int 0, .int 64], .int 0, .bl false])],
  .dic false [(.inr "seen", .tup [.str "seen", .tup [.str "number", .int 0, .int 999999], .int 0, .bl false]), (.inr "state", .tup [.str "state", .tup [.str "word", .tup [.str "up", .str "silent"]], .str "up", .bl false])],
  .dic false [(.inr "cpu", .tup [.str "number", .int 0, .int 64]), (.inr "mem", .tup [.str "number", .int 0, .int 64])],
  .ins "Way" [("of", .str "cpu"), ("form", .tup [.str "number", .int 0, .int 64]), ("factor", .int 1), ("more", .int 0), ("words", .non)],
  .ins "Way" [("of", .str "mem"), ("form", .tup [.str "number", .int 0, .int 64]), ("factor", .int 1), ("more", .int 0), ("words", .non)],
  .dic false [(.inr "cpu", .obj 175), (.inr "mem", .obj 176)],
  .dic false [(.inr "hub", .obj 177)],
  .dic false [(.inr "holder", .tup [.str "holder", .tup [.str "name"], .str "", .bl false]), (.inr "renewed", .tup [.str "renewed", .tup [.str "number", .int 0, .int 999999], .int 0, .bl false]), (.inr "length", .tup [.str "length", .tup [.str "number", .int 1, .int 999], .int 10, .bl false]), (.inr "wait", .tup [.str "wait", .tup [.str "number", .int 1, .int 999], .int 20, .bl false])]]
def mk9 : List DObj := [.dic false [],
  .dic false [(.inr "holder", .tup [.str "name"]), (.inr "renewed", .tup [.str "number", .int 0, .int 999999]), (.inr "length", .tup [.str "number", .int 1, .int 999]), (.inr "wait", .tup [.str "number", .int 1, .int 999])],
  .ins "Way" [("of", .str "holder"), ("form", .tup [.str "name"]), ("factor", .int 1), ("more", .int 0), ("words", .non)],
  .ins "Way" [("of", .str "renewed"), ("form", .tup [.str "number", .int 0, .int 999999]), ("factor", .int 1), ("more", .int 0), ("words", .non)],
  .ins "Way" [("of", .str "length"), ("form", .tup [.str "number", .int 1, .int 999]), ("factor", .int 1), ("more", .int 0), ("words", .non)],
  .ins "Way" [("of", .str "wait"), ("form", .tup [.str "number", .int 1, .int 999]), ("factor", .int 1), ("more", .int 0), ("words", .non)],
  .dic false [(.inr "holder", .obj 182), (.inr "renewed", .obj 183), (.inr "length", .obj 184), (.inr "wait", .obj 185)],
  .dic false [(.inr "hub", .obj 186)],
  .ins "Kinds" [("ways", .obj 189), ("rows", .obj 190)],
  .dic false [(.inr "task", .obj 238), (.inr "set", .obj 249), (.inr "rollout", .obj 262), (.inr "job", .obj 274), (.inr "each", .obj 284), (.inr "budget", .obj 291), (.inr "quota", .obj 299), (.inr "scaler", .obj 309), (.inr "points", .obj 315), (.inr "node", .obj 322), (.inr "lease", .obj 331), (.inr "zoo", .obj 338)],
  .dic false [(.inr "task", .tup [.obj 227, .obj 228]), (.inr "set", .tup [.obj 239, .obj 240]), (.inr "rollout", .tup [.obj 250, .obj 251]), (.inr "job", .tup [.obj 263, .obj 264]), (.inr "each", .tup [.obj 275, .obj 276]), (.inr "budget", .tup [.obj 285, .obj 286]), (.inr "quota", .tup [.obj 292, .obj 293]), (.inr "scaler", .tup [.obj 300, .obj 301]), (.inr "points", .tup [.obj 310, .obj 311]), (.inr "node", .tup [.obj 316, .obj 317]), (.inr "lease", .tup [.obj 323, .obj 324]), (.inr "zoo", .tup [.obj 334, .obj 335])],
  .dic false [(.inr "task", .tup [.obj 193, .obj 194]), (.inr "set", .tup [.obj 196, .obj 198]), (.inr "rollout", .tup [.obj 201, .obj 203]), (.inr "job", .tup [.obj 206, .obj 208]), (.inr "each", .tup [.obj 210, .obj 212])],
  .lst [.tup [.str "cpu", .tup [.str "number", .int 0, .int 64], .int 0, .bl true], .tup [.str "mem", .tup [.str "number", .int 0, .int 64], .int 0, .bl true], .tup [.str "prio", .tup [.str "number", .int 0, .int 9], .int 0, .bl true], .tup [.str "pick", .tup [.str "selector"], .str "", .bl true]],
  .lst [.tup [.str "cpu", .tup [.str "number", .int 0, .int 64], .int 0, .bl true], .tup [.str "mem", .tup [.str "number", .int 0, .int 64], .int 0, .bl true], .tup [.str "prio", .tup [.str "number", .int 0, .int 9], .int 0, .bl true], .tup [.str "pick", .tup [.str "selector"], .str "", .bl true], .tup [.str "template", .tup [.str "number", .int 0, .int 999999], .int 0, .bl true], .tup [.str "only", .tup [.str "name"], .str "", .bl true], .tup [.str "node", .tup [.str "name"], .str "", .bl false]],
  .lst [.tup [.str "phase", .tup [.str "word", .tup [.str "pending", .str "running", .str "ready", .str "done", .str "failed"]], .str "pending", .bl false], .tup [.str "wants", .tup [.str "name"], .str "", .bl false], .tup [.str "why", .tup [.str "text"], .str "", .bl false]],
  .lst [.tup [.str "cpu", .tup [.str "number", .int 0, .int 64], .int 0, .bl true], .tup [.str "mem", .tup [.str "number", .int 0, .int 64], .int 0, .bl true], .tup [.str "prio", .tup [.str "number", .int 0, .int 9], .int 0, .bl true], .tup [.str "pick", .tup [.str "selector"], .str "", .bl true]],
  .lst [.tup [.str "cpu", .tup [.str "number", .int 0, .int 64], .int 0, .bl true], .tup [.str "mem", .tup [.str "number", .int 0, .int 64], .int 0, .bl true], .tup [.str "prio", .tup [.str "number", .int 0, .int 9], .int 0, .bl true], .tup [.str "pick", .tup [.str "selector"], .str "", .bl true], .tup [.str "template", .tup [.str "number", .int 0, .int 999999], .int 0, .bl true], .tup [.str "replicas", .tup [.str "number", .int 0, .int 12], .int 1, .bl false]],
  .lst [.str "made", .str "ready", .str "old"],
  .lst [.tup [.str "made", .tup [.str "number", .int 0, .int 99], .int 0, .bl false], .tup [.str "ready", .tup [.str "number", .int 0, .int 99], .int 0, .bl false], .tup [.str "old", .tup [.str "number", .int 0, .int 99], .int 0, .bl false]],
  .lst [.tup [.str "replicas", .tup [.str "number", .int 0, .int 12], .int 1, .bl false], .tup [.str "surge", .tup [.str "number", .int 0, .int 4], .int 1, .bl false], .tup [.str "down", .tup [.str "number", .int 0, .int 4], .int 0, .bl false]]]
def mk10 : List DObj := [.lst [.tup [.str "cpu", .tup [.str "number", .int 0, .int 64], .int 0, .bl false], .tup [.str "mem", .tup [.str "number", .int 0, .int 64], .int 0, .bl false], .tup [.str "prio", .tup [.str "number", .int 0, .int 9], .int 0, .bl false], .tup [.str "pick", .tup [.str "selector"], .str "", .bl false]],
  .lst [.tup [.str "cpu", .tup [.str "number", .int 0, .int 64], .int 0, .bl false], .tup [.str "mem", .tup [.str "number", .int 0, .int 64], .int 0, .bl false], .tup [.str "prio", .tup [.str "number", .int 0, .int 9], .int 0, .bl false], .tup [.str "pick", .tup [.str "selector"], .str "", .bl false], .tup [.str "template", .tup [.str "number", .int 0, .int 999999], .int 0, .bl false], .tup [.str "replicas", .tup [.str "number", .int 0, .int 12], .int 1, .bl false], .tup [.str "surge", .tup [.str "number", .int 0, .int 4], .int 1, .bl false], .tup [.str "down", .tup [.str "number", .int 0, .int 4], .int 0, .bl false]],
  .lst [.str "made", .str "ready"],
  .lst [.tup [.str "made", .tup [.str "number", .int 0, .int 99], .int 0, .bl false], .tup [.str "ready", .tup [.str "number", .int 0, .int 99], .int 0, .bl false], .tup [.str "state", .tup [.str "word", .tup [.str "moving", .str "still"]], .str "moving", .bl false]],
  .lst [.tup [.str "wanted", .tup [.str "number", .int 1, .int 8], .int 1, .bl true], .tup [.str "wide", .tup [.str "number", .int 1, .int 4], .int 1, .bl true], .tup [.str "tries", .tup [.str "number", .int 0, .int 4], .int 0, .bl true]],
  .lst [.tup [.str "cpu", .tup [.str "number", .int 0, .int 64], .int 0, .bl true], .tup [.str "mem", .tup [.str "number", .int 0, .int 64], .int 0, .bl true], .tup [.str "prio", .tup [.str "number", .int 0, .int 9], .int 0, .bl true], .tup [.str "pick", .tup [.str "selector"], .str "", .bl true]],
  .lst [.tup [.str "cpu", .tup [.str "number", .int 0, .int 64], .int 0, .bl true], .tup [.str "mem", .tup [.str "number", .int 0, .int 64], .int 0, .bl true], .tup [.str "prio", .tup [.str "number", .int 0, .int 9], .int 0, .bl true], .tup [.str "pick", .tup [.str "selector"], .str "", .bl true], .tup [.str "wanted", .tup [.str "number", .int 1, .int 8], .int 1, .bl true], .tup [.str "wide", .tup [.str "number", .int 1, .int 4], .int 1, .bl true], .tup [.str "tries", .tup [.str "number", .int 0, .int 4], .int 0, .bl true]],
  .lst [.str "done", .str "failed"],
  .lst [.tup [.str "done", .tup [.str "number", .int 0, .int 99], .int 0, .bl false], .tup [.str "failed", .tup [.str "number", .int 0, .int 99], .int 0, .bl false], .tup [.str "state", .tup [.str "word", .tup [.str "on", .str "done", .str "failed"]], .str "on", .bl false]],
  .lst [.tup [.str "cpu", .tup [.str "number", .int 0, .int 64], .int 0, .bl true], .tup [.str "mem", .tup [.str "number", .int 0, .int 64], .int 0, .bl true], .tup [.str "prio", .tup [.str "number", .int 0, .int 9], .int 0, .bl true], .tup [.str "pick", .tup [.str "selector"], .str "", .bl true]],
  .lst [.tup [.str "cpu", .tup [.str "number", .int 0, .int 64], .int 0, .bl true], .tup [.str "mem", .tup [.str "number", .int 0, .int 64], .int 0, .bl true], .tup [.str "prio", .tup [.str "number", .int 0, .int 9], .int 0, .bl true], .tup [.str "pick", .tup [.str "selector"], .str "", .bl true], .tup [.str "template", .tup [.str "number", .int 0, .int 999999], .int 0, .bl true]],
  .lst [.str "made", .str "ready"],
  .lst [.tup [.str "made", .tup [.str "number", .int 0, .int 99], .int 0, .bl false], .tup [.str "ready", .tup [.str "number", .int 0, .int 99], .int 0, .bl false]],
  .dic false [(.inr "budget", .tup [.obj 214, .obj 215]), (.inr "quota", .tup [.obj 217, .obj 218]), (.inr "scaler", .tup [.obj 219, .obj 220]), (.inr "points", .tup [.obj 221, .obj 222]), (.inr "node", .tup [.obj 223, .obj 224]), (.inr "lease", .tup [.obj 225, .obj 226])],
  .lst [.tup [.str "match", .tup [.str "selector"], .str "", .bl false], .tup [.str "least", .tup [.str "number", .int 0, .int 12], .int 0, .bl false]],
  .lst [],
  .lst [.tup [.str "most", .tup [.str "number", .int 0, .int 40], .int 40, .bl false], .tup [.str "cpu", .tup [.str "number", .int 0, .int 999], .int 999, .bl false]],
  .lst [.tup [.str "of", .tup [.str "name"], .str "task", .bl false], .tup [.str "most", .tup [.str "number", .int 0, .int 40], .int 40, .bl false], .tup [.str "cpu", .tup [.str "number", .int 0, .int 999], .int 999, .bl false]],
  .lst [],
  .lst [.tup [.str "kind", .tup [.str "word", .tup [.str "set", .str "rollout"]], .str "rollout", .bl false], .tup [.str "target", .tup [.str "name"], .str "", .bl false], .tup [.str "low", .tup [.str "number", .int 0, .int 12], .int 1, .bl false], .tup [.str "high", .tup [.str "number", .int 0, .int 12], .int 12, .bl false], .tup [.str "aim", .tup [.str "number", .int 1, .int 100], .int 50, .bl false]]]
def mk11 : List DObj := [.lst [.tup [.str "load", .tup [.str "number", .int 0, .int 9999], .int 0, .bl false]],
  .lst [.tup [.str "match", .tup [.str "selector"], .str "", .bl false]],
  .lst [.tup [.str "ready", .tup [.str "text"], .str "", .bl false]],
  .lst [.tup [.str "cpu", .tup [.str "number", .int 0, .int 64], .int 0, .bl false], .tup [.str "mem", .tup [.str "number", .int 0, .int 64], .int 0, .bl false]],
  .lst [.tup [.str "seen", .tup [.str "number", .int 0, .int 999999], .int 0, .bl false], .tup [.str "state", .tup [.str "word", .tup [.str "up", .str "silent"]], .str "up", .bl false]],
  .lst [.tup [.str "holder", .tup [.str "name"], .str "", .bl false], .tup [.str "renewed", .tup [.str "number", .int 0, .int 999999], .int 0, .bl false], .tup [.str "length", .tup [.str "number", .int 1, .int 999], .int 10, .bl false], .tup [.str "wait", .tup [.str "number", .int 1, .int 999], .int 20, .bl false]],
  .lst [],
  .dic false [(.inr "cpu", .tup [.str "cpu", .tup [.str "number", .int 0, .int 64], .int 0, .bl true]), (.inr "mem", .tup [.str "mem", .tup [.str "number", .int 0, .int 64], .int 0, .bl true]), (.inr "prio", .tup [.str "prio", .tup [.str "number", .int 0, .int 9], .int 0, .bl true]), (.inr "pick", .tup [.str "pick", .tup [.str "selector"], .str "", .bl true]), (.inr "template", .tup [.str "template", .tup [.str "number", .int 0, .int 999999], .int 0, .bl true]), (.inr "only", .tup [.str "only", .tup [.str "name"], .str "", .bl true]), (.inr "node", .tup [.str "node", .tup [.str "name"], .str "", .bl false])],
  .dic false [(.inr "phase", .tup [.str "phase", .tup [.str "word", .tup [.str "pending", .str "running", .str "ready", .str "done", .str "failed"]], .str "pending", .bl false]), (.inr "wants", .tup [.str "wants", .tup [.str "name"], .str "", .bl false]), (.inr "why", .tup [.str "why", .tup [.str "text"], .str "", .bl false])],
  .dic false [(.inr "cpu", .tup [.str "number", .int 0, .int 64]), (.inr "mem", .tup [.str "number", .int 0, .int 64]), (.inr "prio", .tup [.str "number", .int 0, .int 9]), (.inr "pick", .tup [.str "selector"]), (.inr "template", .tup [.str "number", .int 0, .int 999999]), (.inr "only", .tup [.str "name"]), (.inr "node", .tup [.str "name"])],
  .ins "Way" [("of", .str "cpu"), ("form", .tup [.str "number", .int 0, .int 64]), ("factor", .int 1), ("more", .int 0), ("words", .non)],
  .ins "Way" [("of", .str "mem"), ("form", .tup [.str "number", .int 0, .int 64]), ("factor", .int 1), ("more", .int 0), ("words", .non)],
  .ins "Way" [("of", .str "prio"), ("form", .tup [.str "number", .int 0, .int 9]), ("factor", .int 1), ("more", .int 0), ("words", .non)],
  .ins "Way" [("of", .str "pick"), ("form", .tup [.str "selector"]), ("factor", .int 1), ("more", .int 0), ("words", .non)],
  .ins "Way" [("of", .str "template"), ("form", .tup [.str "number", .int 0, .int 999999]), ("factor", .int 1), ("more", .int 0), ("words", .non)],
  .ins "Way" [("of", .str "only"), ("form", .tup [.str "name"]), ("factor", .int 1), ("more", .int 0), ("words", .non)],
  .ins "Way" [("of", .str "node"), ("form", .tup [.str "name"]), ("factor", .int 1), ("more", .int 0), ("words", .non)],
  .dic false [(.inr "cpu", .obj 230), (.inr "mem", .obj 231), (.inr "prio", .obj 232), (.inr "pick", .obj 233), (.inr "template", .obj 234), (.inr "only", .obj 235), (.inr "node", .obj 236)],
  .dic false [(.inr "hub", .obj 237)],
  .dic false [(.inr "cpu", .tup [.str "cpu", .tup [.str "number", .int 0, .int 64], .int 0, .bl true]), (.inr "mem", .tup [.str "mem", .tup [.str "number", .int 0, .int 64], .int 0, .bl true]), (.inr "prio", .tup [.str "prio", .tup [.str "number", .int 0, .int 9], .int 0, .bl true]), (.inr "pick", .tup [.str "pick", .tup [.str "selector"], .str "", .bl true]), (.inr "template", .tup [.str "template", .tup [.str "number", .int 0, .int 999999], .int 0, .bl true]), (.inr "replicas", .tup [.str "replicas", .tup [.str "number", .int 0, .int 12], .int 1, .bl false])]]
def mk12 : List DObj := [.dic false [(.inr "made", .tup [.str "made", .tup [.str "number", .int 0, .int 99], .int 0, .bl false]), (.inr "ready", .tup [.str "ready", .tup [.str "number", .int 0, .int 99], .int 0, .bl false]), (.inr "old", .tup [.str "old", .tup [.str "number", .int 0, .int 99], .int 0, .bl false])],
  .dic false [(.inr "cpu", .tup [.str "number", .int 0, .int 64]), (.inr "mem", .tup [.str "number", .int 0, .int 64]), (.inr "prio", .tup [.str "number", .int 0, .int 9]), (.inr "pick", .tup [.str "selector"]), (.inr "template", .tup [.str "number", .int 0, .int 999999]), (.inr "replicas", .tup [.str "number", .int 0, .int 12])],
  .ins "Way" [("of", .str "cpu"), ("form", .tup [.str "number", .int 0, .int 64]), ("factor", .int 1), ("more", .int 0), ("words", .non)],
  .ins "Way" [("of", .str "mem"), ("form", .tup [.str "number", .int 0, .int 64]), ("factor", .int 1), ("more", .int 0), ("words", .non)],
  .ins "Way" [("of", .str "prio"), ("form", .tup [.str "number", .int 0, .int 9]), ("factor", .int 1), ("more", .int 0), ("words", .non)],
  .ins "Way" [("of", .str "pick"), ("form", .tup [.str "selector"]), ("factor", .int 1), ("more", .int 0), ("words", .non)],
  .ins "Way" [("of", .str "template"), ("form", .tup [.str "number", .int 0, .int 999999]), ("factor", .int 1), ("more", .int 0), ("words", .non)],
  .ins "Way" [("of", .str "replicas"), ("form", .tup [.str "number", .int 0, .int 12]), ("factor", .int 1), ("more", .int 0), ("words", .non)],
  .dic false [(.inr "cpu", .obj 242), (.inr "mem", .obj 243), (.inr "prio", .obj 244), (.inr "pick", .obj 245), (.inr "template", .obj 246), (.inr "replicas", .obj 247)],
  .dic false [(.inr "hub", .obj 248)],
  .dic false [(.inr "cpu", .tup [.str "cpu", .tup [.str "number", .int 0, .int 64], .int 0, .bl false]), (.inr "mem", .tup [.str "mem", .tup [.str "number", .int 0, .int 64], .int 0, .bl false]), (.inr "prio", .tup [.str "prio", .tup [.str "number", .int 0, .int 9], .int 0, .bl false]), (.inr "pick", .tup [.str "pick", .tup [.str "selector"], .str "", .bl false]), (.inr "template", .tup [.str "template", .tup [.str "number", .int 0, .int 999999], .int 0, .bl false]), (.inr "replicas", .tup [.str "replicas", .tup [.str "number", .int 0, .int 12], .int 1, .bl false]), (.inr "surge", .tup [.str "surge", .tup [.str "number", .int 0, .int 4], .int 1, .bl false]), (.inr "down", .tup [.str "down", .tup [.str "number", .int 0, .int 4], .int 0, .bl false])],
  .dic false [(.inr "made", .tup [.str "made", .tup [.str "number", .int 0, .int 99], .int 0, .bl false]), (.inr "ready", .tup [.str "ready", .tup [.str "number", .int 0, .int 99], .int 0, .bl false]), (.inr "state", .tup [.str "state", .tup [.str "word", .tup [.str "moving", .str "still"]], .str "moving", .bl false])],
  .dic false [(.inr "cpu", .tup [.str "number", .int 0, .int 64]), (.inr "mem", .tup [.str "number", .int 0, .int 64]), (.inr "prio", .tup [.str "number", .int 0, .int 9]), (.inr "pick", .tup [.str "selector"]), (.inr "template", .tup [.str "number", .int 0, .int 999999]), (.inr "replicas", .tup [.str "number", .int 0, .int 12]), (.inr "surge", .tup [.str "number", .int 0, .int 4]), (.inr "down", .tup [.str "number", .int 0, .int 4])],
  .ins "Way" [("of", .str "cpu"), ("form", .tup [.str "number", .int 0, .int 64]), ("factor", .int 1), ("more", .int 0), ("words", .non)],
  .ins "Way" [("of", .str "mem"), ("form", .tup [.str "number", .int 0, .int 64]), ("factor", .int 1), ("more", .int 0), ("words", .non)],
  .ins "Way" [("of", .str "prio"), ("form", .tup [.str "number", .int 0, .int 9]), ("factor", .int 1), ("more", .int 0), ("words", .non)],
  .ins "Way" [("of", .str "pick"), ("form", .tup [.str "selector"]), ("factor", .int 1), ("more", .int 0), ("words", .non)],
  .ins "Way" [("of", .str "template"), ("form", .tup [.str "number", .int 0, .int 999999]), ("factor", .int 1), ("more", .int 0), ("words", .non)],
  .ins "Way" [("of", .str "replicas"), ("form", .tup [.str "number", .int 0, .int 12]), ("factor", .int 1), ("more", .int 0), ("words", .non)],
  .ins "Way" [("of", .str "surge"), ("form", .tup [.str "number", .int 0, .int 4]), ("factor", .int 1), ("more", .int 0), ("words", .non)]]
def mk13 : List DObj := [.ins "Way" [("of", .str "down"), ("form", .tup [.str "number", .int 0, .int 4]), ("factor", .int 1), ("more", .int 0), ("words", .non)],
  .dic false [(.inr "cpu", .obj 253), (.inr "mem", .obj 254), (.inr "prio", .obj 255), (.inr "pick", .obj 256), (.inr "template", .obj 257), (.inr "replicas", .obj 258), (.inr "surge", .obj 259), (.inr "down", .obj 260)],
  .dic false [(.inr "hub", .obj 261)],
  .dic false [(.inr "cpu", .tup [.str "cpu", .tup [.str "number", .int 0, .int 64], .int 0, .bl true]), (.inr "mem", .tup [.str "mem", .tup [.str "number", .int 0, .int 64], .int 0, .bl true]), (.inr "prio", .tup [.str "prio", .tup [.str "number", .int 0, .int 9], .int 0, .bl true]), (.inr "pick", .tup [.str "pick", .tup [.str "selector"], .str "", .bl true]), (.inr "wanted", .tup [.str "wanted", .tup [.str "number", .int 1, .int 8], .int 1, .bl true]), (.inr "wide", .tup [.str "wide", .tup [.str "number", .int 1, .int 4], .int 1, .bl true]), (.inr "tries", .tup [.str "tries", .tup [.str "number", .int 0, .int 4], .int 0, .bl true])],
  .dic false [(.inr "done", .tup [.str "done", .tup [.str "number", .int 0, .int 99], .int 0, .bl false]), (.inr "failed", .tup [.str "failed", .tup [.str "number", .int 0, .int 99], .int 0, .bl false]), (.inr "state", .tup [.str "state", .tup [.str "word", .tup [.str "on", .str "done", .str "failed"]], .str "on", .bl false])],
  .dic false [(.inr "cpu", .tup [.str "number", .int 0, .int 64]), (.inr "mem", .tup [.str "number", .int 0, .int 64]), (.inr "prio", .tup [.str "number", .int 0, .int 9]), (.inr "pick", .tup [.str "selector"]), (.inr "wanted", .tup [.str "number", .int 1, .int 8]), (.inr "wide", .tup [.str "number", .int 1, .int 4]), (.inr "tries", .tup [.str "number", .int 0, .int 4])],
  .ins "Way" [("of", .str "cpu"), ("form", .tup [.str "number", .int 0, .int 64]), ("factor", .int 1), ("more", .int 0), ("words", .non)],
  .ins "Way" [("of", .str "mem"), ("form", .tup [.str "number", .int 0, .int 64]), ("factor", .int 1), ("more", .int 0), ("words", .non)],
  .ins "Way" [("of", .str "prio"), ("form", .tup [.str "number", .int 0, .int 9]), ("factor", .int 1), ("more", .int 0), ("words", .non)],
  .ins "Way" [("of", .str "pick"), ("form", .tup [.str "selector"]), ("factor", .int 1), ("more", .int 0), ("words", .non)],
  .ins "Way" [("of", .str "wanted"), ("form", .tup [.str "number", .int 1, .int 8]), ("factor", .int 1), ("more", .int 0), ("words", .non)],
  .ins "Way" [("of", .str "wide"), ("form", .tup [.str "number", .int 1, .int 4]), ("factor", .int 1), ("more", .int 0), ("words", .non)],
  .ins "Way" [("of", .str "tries"), ("form", .tup [.str "number", .int 0, .int 4]), ("factor", .int 1), ("more", .int 0), ("words", .non)],
  .dic false [(.inr "cpu", .obj 266), (.inr "mem", .obj 267), (.inr "prio", .obj 268), (.inr "pick", .obj 269), (.inr "wanted", .obj 270), (.inr "wide", .obj 271), (.inr "tries", .obj 272)],
  .dic false [(.inr "hub", .obj 273)],
  .dic false [(.inr "cpu", .tup [.str "cpu", .tup [.str "number", .int 0, .int 64], .int 0, .bl true]), (.inr "mem", .tup [.str "mem", .tup [.str "number", .int 0, .int 64], .int 0, .bl true]), (.inr "prio", .tup [.str "prio", .tup [.str "number", .int 0, .int 9], .int 0, .bl true]), (.inr "pick", .tup [.str "pick", .tup [.str "selector"], .str "", .bl true]), (.inr "template", .tup [.str "template", .tup [.str "number", .int 0, .int 999999], .int 0, .bl true])],
  .dic false [(.inr "made", .tup [.str "made", .tup [.str "number", .int 0, .int 99], .int 0, .bl false]), (.inr "ready", .tup [.str "ready", .tup [.str "number", .int 0, .int 99], .int 0, .bl false])],
  .dic false [(.inr "cpu", .tup [.str "number", .int 0, .int 64]), (.inr "mem", .tup [.str "number", .int 0, .int 64]), (.inr "prio", .tup [.str "number", .int 0, .int 9]), (.inr "pick", .tup [.str "selector"]), (.inr "template", .tup [.str "number", .int 0, .int 999999])],
  .ins "Way" [("of", .str "cpu"), ("form", .tup [.str "number", .int 0, .int 64]), ("factor", .int 1), ("more", .int 0), ("words", .non)],
  .ins "Way" [("of", .str "mem"), ("form", .tup [.str "number", .int 0, .int 64]), ("factor", .int 1), ("more", .int 0), ("words", .non)]]
def mk14 : List DObj := [.ins "Way" [("of", .str "prio"), ("form", .tup [.str "number", .int 0, .int 9]), ("factor", .int 1), ("more", .int 0), ("words", .non)],
  .ins "Way" [("of", .str "pick"), ("form", .tup [.str "selector"]), ("factor", .int 1), ("more", .int 0), ("words", .non)],
  .ins "Way" [("of", .str "template"), ("form", .tup [.str "number", .int 0, .int 999999]), ("factor", .int 1), ("more", .int 0), ("words", .non)],
  .dic false [(.inr "cpu", .obj 278), (.inr "mem", .obj 279), (.inr "prio", .obj 280), (.inr "pick", .obj 281), (.inr "template", .obj 282)],
  .dic false [(.inr "hub", .obj 283)],
  .dic false [(.inr "match", .tup [.str "match", .tup [.str "selector"], .str "", .bl false]), (.inr "least", .tup [.str "least", .tup [.str "number", .int 0, .int 12], .int 0, .bl false])],
  .dic false [],
  .dic false [(.inr "match", .tup [.str "selector"]), (.inr "least", .tup [.str "number", .int 0, .int 12])],
  .ins "Way" [("of", .str "match"), ("form", .tup [.str "selector"]), ("factor", .int 1), ("more", .int 0), ("words", .non)],
  .ins "Way" [("of", .str "least"), ("form", .tup [.str "number", .int 0, .int 12]), ("factor", .int 1), ("more", .int 0), ("words", .non)],
  .dic false [(.inr "match", .obj 288), (.inr "least", .obj 289)],
  .dic false [(.inr "hub", .obj 290)],
  .dic false [(.inr "of", .tup [.str "of", .tup [.str "name"], .str "task", .bl false]), (.inr "most", .tup [.str "most", .tup [.str "number", .int 0, .int 40], .int 40, .bl false]), (.inr "cpu", .tup [.str "cpu", .tup [.str "number", .int 0, .int 999], .int 999, .bl false])],
  .dic false [],
  .dic false [(.inr "of", .tup [.str "name"]), (.inr "most", .tup [.str "number", .int 0, .int 40]), (.inr "cpu", .tup [.str "number", .int 0, .int 999])],
  .ins "Way" [("of", .str "of"), ("form", .tup [.str "name"]), ("factor", .int 1), ("more", .int 0), ("words", .non)],
  .ins "Way" [("of", .str "most"), ("form", .tup [.str "number", .int 0, .int 40]), ("factor", .int 1), ("more", .int 0), ("words", .non)],
  .ins "Way" [("of", .str "cpu"), ("form", .tup [.str "number", .int 0, .int 999]), ("factor", .int 1), ("more", .int 0), ("words", .non)],
  .dic false [(.inr "of", .obj 295), (.inr "most", .obj 296), (.inr "cpu", .obj 297)],
  .dic false [(.inr "hub", .obj 298)]]
def mk15 : List DObj := [.dic false [(.inr "kind", .tup [.str "kind", .tup [.str "word", .tup [.str "set", .str "rollout"]], .str "rollout", .bl false]), (.inr "target", .tup [.str "target", .tup [.str "name"], .str "", .bl false]), (.inr "low", .tup [.str "low", .tup [.str "number", .int 0, .int 12], .int 1, .bl false]), (.inr "high", .tup [.str "high", .tup [.str "number", .int 0, .int 12], .int 12, .bl false]), (.inr "aim", .tup [.str "aim", .tup [.str "number", .int 1, .int 100], .int 50, .bl false])],
  .dic false [(.inr "load", .tup [.str "load", .tup [.str "number", .int 0, .int 9999], .int 0, .bl false])],
  .dic false [(.inr "kind", .tup [.str "word", .tup [.str "set", .str "rollout"]]), (.inr "target", .tup [.str "name"]), (.inr "low", .tup [.str "number", .int 0, .int 12]), (.inr "high", .tup [.str "number", .int 0, .int 12]), (.inr "aim", .tup [.str "number", .int 1, .int 100])],
  .ins "Way" [("of", .str "kind"), ("form", .tup [.str "word", .tup [.str "set", .str "rollout"]]), ("factor", .int 1), ("more", .int 0), ("words", .non)],
  .ins "Way" [("of", .str "target"), ("form", .tup [.str "name"]), ("factor", .int 1), ("more", .int 0), ("words", .non)],
  .ins "Way" [("of", .str "low"), ("form", .tup [.str "number", .int 0, .int 12]), ("factor", .int 1), ("more", .int 0), ("words", .non)],
  .ins "Way" [("of", .str "high"), ("form", .tup [.str "number", .int 0, .int 12]), ("factor", .int 1), ("more", .int 0), ("words", .non)],
  .ins "Way" [("of", .str "aim"), ("form", .tup [.str "number", .int 1, .int 100]), ("factor", .int 1), ("more", .int 0), ("words", .non)],
  .dic false [(.inr "kind", .obj 303), (.inr "target", .obj 304), (.inr "low", .obj 305), (.inr "high", .obj 306), (.inr "aim", .obj 307)],
  .dic false [(.inr "hub", .obj 308)],
  .dic false [(.inr "match", .tup [.str "match", .tup [.str "selector"], .str "", .bl false])],
  .dic false [(.inr "ready", .tup [.str "ready", .tup [.str "text"], .str "", .bl false])],
  .dic false [(.inr "match", .tup [.str "selector"])],
  .ins "Way" [("of", .str "match"), ("form", .tup [.str "selector"]), ("factor", .int 1), ("more", .int 0), ("words", .non)],
  .dic false [(.inr "match", .obj 313)],
  .dic false [(.inr "hub", .obj 314)],
  .dic false [(.inr "cpu", .tup [.str "cpu", .tup [.str "number", .int 0, .int 64], .int 0, .bl false]), (.inr "mem", .tup [.str "mem", .tup [.str "number", .int 0, .int 64], .int 0, .bl false])],
  .dic false [(.inr "seen", .tup [.str "seen", .tup [.str "number", .int 0, .int 999999], .int 0, .bl false]), (.inr "state", .tup [.str "state", .tup [.str "word", .tup [.str "up", .str "silent"]], .str "up", .bl false])],
  .dic false [(.inr "cpu", .tup [.str "number", .int 0, .int 64]), (.inr "mem", .tup [.str "number", .int 0, .int 64])],
  .ins "Way" [("of", .str "cpu"), ("form", .tup [.str "number", .int 0, .int 64]), ("factor", .int 1), ("more", .int 0), ("words", .non)]]
def mk16 : List DObj := [.ins "Way" [("of", .str "mem"), ("form", .tup [.str "number", .int 0, .int 64]), ("factor", .int 1), ("more", .int 0), ("words", .non)],
  .dic false [(.inr "cpu", .obj 319), (.inr "mem", .obj 320)],
  .dic false [(.inr "hub", .obj 321)],
  .dic false [(.inr "holder", .tup [.str "holder", .tup [.str "name"], .str "", .bl false]), (.inr "renewed", .tup [.str "renewed", .tup [.str "number", .int 0, .int 999999], .int 0, .bl false]), (.inr "length", .tup [.str "length", .tup [.str "number", .int 1, .int 999], .int 10, .bl false]), (.inr "wait", .tup [.str "wait", .tup [.str "number", .int 1, .int 999], .int 20, .bl false])],
  .dic false [],
  .dic false [(.inr "holder", .tup [.str "name"]), (.inr "renewed", .tup [.str "number", .int 0, .int 999999]), (.inr "length", .tup [.str "number", .int 1, .int 999]), (.inr "wait", .tup [.str "number", .int 1, .int 999])],
  .ins "Way" [("of", .str "holder"), ("form", .tup [.str "name"]), ("factor", .int 1), ("more", .int 0), ("words", .non)],
  .ins "Way" [("of", .str "renewed"), ("form", .tup [.str "number", .int 0, .int 999999]), ("factor", .int 1), ("more", .int 0), ("words", .non)],
  .ins "Way" [("of", .str "length"), ("form", .tup [.str "number", .int 1, .int 999]), ("factor", .int 1), ("more", .int 0), ("words", .non)],
  .ins "Way" [("of", .str "wait"), ("form", .tup [.str "number", .int 1, .int 999]), ("factor", .int 1), ("more", .int 0), ("words", .non)],
  .dic false [(.inr "holder", .obj 326), (.inr "renewed", .obj 327), (.inr "length", .obj 328), (.inr "wait", .obj 329)],
  .dic false [(.inr "hub", .obj 330)],
  .lst [],
  .lst [],
  .dic false [],
  .dic false [],
  .dic false [],
  .dic false [],
  .dic false [(.inr "hub", .obj 337)],
  .lst [.str "budget", .str "each", .str "job", .str "lease", .str "node", .str "points", .str "quota", .str "rollout", .str "scaler", .str "set", .str "task", .str "zoo"]]
def MK : DM := .ofL (mk0 ++ (mk1 ++ (mk2 ++ (mk3 ++ (mk4 ++ (mk5 ++ (mk6 ++ (mk7 ++ (mk8 ++ (mk9 ++ (mk10 ++ (mk11 ++ (mk12 ++ (mk13 ++ (mk14 ++ (mk15 ++ (mk16)))))))))))))))))
def DK (is : List Int) : DS := [some (.scr is), some (.obj 7), some (.obj 44), some (.obj 188), none, none, none, none, none]
theorem pre_ok (is : List Int) : preL (dl0 is) .nil = .nx (DK is) MK := by kernel_rfl
end
end Lk
end

section
set_option maxRecDepth 1000000
set_option maxHeartbeats 4000000
namespace Lk
open PySem PySem.Spec PyProof.Rows L2
noncomputable section
/-! ## k08: one kind -/
/-- an outcome, seen up to the things that are there now -/
def tk : Res RV → Res RV
  | .ok a M => .ok a (M.take 342)
  | r => r
def dueOf (k : Str) : DV := match (MK[7]? : Option DObj) with
  | some (.dic _ kvs) => (valD kvs (.inr k)).getD .non
  | _ => .non
def stt (o1 o2 : DObj) : DM := (MK.push o1).push o2
def rightE (k : Str) (M : DM) : Res RV := fnRun N__law_right.length m__law_right [.obj 44, .str k, dueOf k] M
/-- the kind k is right, and what that leaves -/
def RightK (k : Str) : Prop := ∀ (o1 o2 : DObj), tk (rightE k (stt o1 o2)) = .ok (.v (.bl true)) (stt o1 o2)
theorem right_task : RightK "task" := fun o1 o2 => by kernel_rfl
theorem right_set : RightK "set" := fun o1 o2 => by kernel_rfl
theorem right_rollout : RightK "rollout" := fun o1 o2 => by kernel_rfl
theorem right_job : RightK "job" := fun o1 o2 => by kernel_rfl
theorem right_each : RightK "each" := fun o1 o2 => by kernel_rfl
theorem right_budget : RightK "budget" := fun o1 o2 => by kernel_rfl
theorem right_quota : RightK "quota" := fun o1 o2 => by kernel_rfl
theorem right_scaler : RightK "scaler" := fun o1 o2 => by kernel_rfl
theorem right_points : RightK "points" := fun o1 o2 => by kernel_rfl
theorem right_node : RightK "node" := fun o1 o2 => by kernel_rfl
theorem right_lease : RightK "lease" := fun o1 o2 => by kernel_rfl
end
end Lk
end

section
set_option maxRecDepth 1000000
set_option maxHeartbeats 4000000
namespace Lk
open PySem PySem.Spec PyProof.Rows L2
noncomputable section
/-! ## the source of draws, as it is run -/
theorem cellat_run (is : List Int) (T : DM) : ∃ c, run__law_cell_at [.scr is, .int 0] T = .ok (.v (.int c)) T := by
  cases is with
  | nil => exact ⟨0, rfl⟩
  | cons i r =>
    refine ⟨i, ?_⟩
    have e : ixN (r.length + 1) 0 = some 0 := by unfold ixN; rw [if_pos (by decide), if_pos (by omega)]; rfl
    simp [run__law_cell_at, fnRun, startD, m__law_cell_at, N__law_cell_at, mSeq, mIfS, mCmpT, m2, mVar, mC, mBlt, mConsR, mNilR, bLen, asS, asL, ansR, ansT, thenE, Res.bind, opCmp, opLt, mRet, mBin, opIx, L2.atI, e]
theorem source_run (c : Int) (M : DM) : ∃ x y, run__law_source [.int c] M = .ok (.lst [.int x, .int y, .int 0]) M ∧ 0 ≤ y ∧ y < 2147483647 := by
  refine ⟨c * (if (10 ^ 18 : Int) ≤ c then 1 else 0), c % 2147483647, ?_, Int.emod_nonneg c (by decide), Int.emod_lt_of_pos c (by decide)⟩
  by_cases h : (1000000000000000000 : Int) ≤ c <;>
    simp [LIM, run__law_source, fnRun, startD, m__law_source, N__law_source, mSeq, mRet, mLst, mCons, mV, mat, mBin, m2, mVar, mC, mBlt, mConsR, mNilR, bInt, mCmp, opCmp, opLe, opPow, opMod, opMul, ansR, ansB, thenE, Res.bind, mNil, h]
theorem log_small {n : Nat} {b k : Nat} (h : n < 2 ^ b) (hb : b < k) (hk : 0 < k) : n.log2 < k := by
  by_cases z : n = 0
  · subst z; exact hk
  · exact Nat.lt_trans ((Nat.log2_lt z).mpr h) hb
theorem draw_run (M : DM) (s : Nat) (x y z m : Int) (hM : M[s]? = some (.lst [.int x, .int y, .int z])) (hy : 0 ≤ y ∧ y < 2147483647) (hz : 0 ≤ z ∧ z < 1000000) (hm : 0 < m ∧ m ≤ 1000000000) :
    ∃ x' z' d, run__law_draw [.obj s, .int m] M = .ok (.v (.int d)) (M.set s (.lst [.int x', .int y, .int z'])) ∧ 0 ≤ d ∧ d < m ∧ 0 ≤ z' ∧ z' ≤ z + 1 := by
  have hl : s < M.length := DM.get_lt hM
  have hs : ∀ o : DObj, (M.set s o)[s]? = some o := fun o => DM.set_same hl
  have hss : ∀ o u : DObj, (M.set s o).set s u = M.set s u := fun o u => DM.set_set
  have e0 : ixN 3 0 = some 0 := by decide
  have e1 : ixN 3 1 = some 1 := by decide
  have e2 : ixN 3 2 = some 2 := by decide
  by_cases hx : 0 < x
  · refine ⟨x / m, z, x % m, ?_, Int.emod_nonneg _ (by omega), Int.emod_lt_of_pos _ hm.1, hz.1, by omega⟩
    have hmd : m.natAbs.log2 < 8000 := log_small (b := 30) (by omega) (by decide) (by decide)
    simp [run__law_draw, fnRun, startD, m__law_draw, N__law_draw, mSeq, mIfS, mRet, mSet, mAsg, gSubM, setD, lstAt, mCmpT, mV, mat, mBin, m2, mVar, mC, mBlt, mConsR, mNilR, bInt, opCmp, opLt, opMod, opDiv, opIx, L2.atI, asS, asL, ansR, ansT, thenE, Res.bind, hM, e0, hx, hm.1, hmd]
  · have p1 : (y + 7919 * (z + 1) + 1).natAbs < 18446744073709551616 := by omega
    have p1' : (y + 7919 * (z + 1) + 1).natAbs < 2 ^ 64 := p1
    generalize hn : ((y + 7919 * (z + 1) + 1) ^ 5) % 2147483629 = n1
    have n1r : 0 ≤ n1 ∧ n1 < 2147483629 := by rw [← hn]; exact ⟨Int.emod_nonneg _ (by decide), Int.emod_lt_of_pos _ (by decide)⟩
    generalize hn2 : (n1 * (n1 / 1009 + 69621 + (z + 1))) % 2147483587 = n2
    have n2r : 0 ≤ n2 ∧ n2 < 2147483587 := by rw [← hn2]; exact ⟨Int.emod_nonneg _ (by decide), Int.emod_lt_of_pos _ (by decide)⟩
    have q1 : n1.natAbs < 18446744073709551616 := by omega
    have q2 : n2.natAbs < 18446744073709551616 := by omega
    have q3 : (7919 : Int).natAbs < 18446744073709551616 := by decide
    have q4 : Nat.log2 1009 < 8000 := by decide
    have q5 : Nat.log2 2003 < 8000 := by decide
    have q6 : Nat.log2 7 < 8000 := by decide
    refine ⟨x, z + 1, n2 * (n2 / 2003 + 40692) % 2147483579 / 7 % m, ?_, Int.emod_nonneg _ (by omega), Int.emod_lt_of_pos _ hm.1, by omega, by omega⟩
    simp [run__law_draw, fnRun, startD, m__law_draw, N__law_draw, mSeq, mIfS, mRet, mSet, mAsg, gSubM, setD, lstAt, mCmpT, mV, mat, mBin, m2, mVar, mC, mBlt, mConsR, mNilR, bInt, opCmp, opLt, opMod, opDiv, opAdd, opMul, opPow, opIx, L2.atI, asS, asL, ansR, ansT, thenE, Res.bind, hM, e0, e1, e2, hx, hm.1, hs, p1, hn, hn2, q1, q2, q4, q5, q6, hss, mPass]
/-! ## k08: the state of a turn -/
theorem stt_a (o1 o2 : DObj) : (stt o1 o2)[340]? = some o1 := by kernel_rfl
theorem stt_b (o1 o2 : DObj) : (stt o1 o2)[341]? = some o2 := by kernel_rfl
theorem stt_cut (o1 o2 : DObj) : (stt o1 o2).take 340 = MK := by kernel_rfl
theorem stt_len (o1 o2 : DObj) : (stt o1 o2).length = 342 := by kernel_rfl
theorem stt_set1 (o1 o2 o : DObj) : (stt o1 o2).set 340 o = stt o o2 := by kernel_rfl
theorem stt_set2 (o1 o2 o : DObj) : (stt o1 o2).set 341 o = stt o1 o := by kernel_rfl
theorem m0_len : MK.length = 340 := by kernel_rfl
theorem mk_closed : MK.all (closedO 342) = true := by kernel_rfl
theorem m0_closed : MK.all (closedO 340) = true := by kernel_rfl
theorem closeds_str (n : Nat) : ∀ L : List Str, closeds n (L.map .str) = true
  | [] => rfl
  | _ :: L => by rw [List.map_cons]; exact closeds_str n L
theorem stt_closed (x y z : Int) (L : List Str) : (stt (.lst [.int x, .int y, .int z]) (.lst (L.map .str))).all (closedO 342) = true := DM.all_of fun k o e => by
  have lt := DM.get_lt e
  rw [stt_len] at lt
  by_cases e1 : k = 341
  · subst e1
    rw [stt_b] at e
    cases e
    exact closeds_str 342 L
  by_cases e0 : k = 340
  · subst e0
    rw [stt_a] at e
    cases e
    rfl
  · have l1 : k < (MK.push (.lst [.int x, .int y, .int z])).length := by rw [DM.length_push, m0_len]; omega
    have l0 : k < MK.length := by rw [m0_len]; omega
    exact DM.all_at mk_closed (((DM.push_lt l1).trans (DM.push_lt l0)).symm.trans e)
theorem right_run {k : Str} (h : RightK k) (x y z : Int) (L : List Str) : run__law_right [.obj 44, .str k, dueOf k] (stt (.lst [.int x, .int y, .int z]) (.lst (L.map .str))) = .ok (.v (.bl true)) (stt (.lst [.int x, .int y, .int z]) (.lst (L.map .str))) := by
  show gc (stt (.lst [.int x, .int y, .int z]) (.lst (L.map .str))).length (rightE k (stt (.lst [.int x, .int y, .int z]) (.lst (L.map .str)))) = _
  have e := h (.lst [.int x, .int y, .int z]) (.lst (L.map .str))
  rw [stt_len]
  generalize rightE k (stt (.lst [.int x, .int y, .int z]) (.lst (L.map .str))) = r at e ⊢
  cases r with
  | bad => cases e
  | exc x M => cases e
  | ok a M =>
    have e : Res.ok a (M.take 342) = .ok (.v (.bl true)) (stt (.lst [.int x, .int y, .int z]) (.lst (L.map .str))) := e
    injection e with e1 e2
    subst e1
    unfold gc
    dsimp only
    rw [e2, if_pos ⟨rfl, stt_closed x y z L⟩]
/-- a state with two things that change -/
structure Two (S : DObj → DObj → DM) : Prop where
  g1 : ∀ o1 o2, (S o1 o2)[340]? = some o1
  g2 : ∀ o1 o2, (S o1 o2)[341]? = some o2
  s1 : ∀ o1 o2 o, (S o1 o2).set 340 o = S o o2
  s2 : ∀ o1 o2 o, (S o1 o2).set 341 o = S o1 o
theorem two_stt : Two stt := ⟨stt_a, stt_b, stt_set1, stt_set2⟩
/-- the kind k, as the law asks for it -/
structure Good (S : DObj → DObj → DM) (k : Str) : Prop where
  lay : PyData.canLay0 (.str k) = true
  run : ∀ (x y z : Int) (L : List Str), ∃ d, (∀ o1 o2, opIx tabs (S o1 o2) (.v (.obj 7)) (.v (.str k)) = some (.v d)) ∧
    run__law_right [.obj 44, .str k, d] (S (.lst [.int x, .int y, .int z]) (.lst (L.map .str))) = .ok (.v (.bl true)) (S (.lst [.int x, .int y, .int z]) (.lst (L.map .str)))
theorem good_of {k : Str} (l : PyData.canLay0 (.str k) = true) (h : RightK k) (i : ∀ o1 o2, opIx tabs (stt o1 o2) (.v (.obj 7)) (.v (.str k)) = some (.v (dueOf k))) : Good stt k := ⟨l, fun x y z L => ⟨dueOf k, i, right_run h x y z L⟩⟩
def names : List Str := ["budget", "each", "job", "lease", "node", "points", "quota", "rollout", "scaler", "set", "task"]
theorem good_all : ∀ k ∈ names, Good stt k := by
  intro k hk
  simp only [names, List.mem_cons, List.not_mem_nil, or_false] at hk
  rcases hk with rfl | rfl | rfl | rfl | rfl | rfl | rfl | rfl | rfl | rfl | rfl
  · exact good_of (by kernel_rfl) right_budget fun o1 o2 => by kernel_rfl
  · exact good_of (by kernel_rfl) right_each fun o1 o2 => by kernel_rfl
  · exact good_of (by kernel_rfl) right_job fun o1 o2 => by kernel_rfl
  · exact good_of (by kernel_rfl) right_lease fun o1 o2 => by kernel_rfl
  · exact good_of (by kernel_rfl) right_node fun o1 o2 => by kernel_rfl
  · exact good_of (by kernel_rfl) right_points fun o1 o2 => by kernel_rfl
  · exact good_of (by kernel_rfl) right_quota fun o1 o2 => by kernel_rfl
  · exact good_of (by kernel_rfl) right_rollout fun o1 o2 => by kernel_rfl
  · exact good_of (by kernel_rfl) right_scaler fun o1 o2 => by kernel_rfl
  · exact good_of (by kernel_rfl) right_set fun o1 o2 => by kernel_rfl
  · exact good_of (by kernel_rfl) right_task fun o1 o2 => by kernel_rfl
def dl (is : List Int) (c : Int) (q : Option DV) : DS := [some (.scr is), some (.obj 7), some (.obj 44), some (.obj 188), some (.int c), some (.obj 340), some (.obj 341), q, none]
def wcond : DT := (mCmpT (opCmpX .NotEq) (mVar 6) (mLst mNil))
def wbody : DSt := mSeq (mSet 7 (mV (mMt "list" gPop (mV (mVar 6)) (mCons (mV (mCallF run__law_draw [] 2 (mCons (mV (mVar 5)) (mCons (mV (mBlt bLen (mConsR (mVar 6) mNilR))) mNil)))) mNil)))) (mSeq (mIfS (mNotT (mTru (mCallF run__law_right [] 3 (mCons (mV (mVar 2)) (mCons (mV (mVar 7)) (mCons (mV (mBin (opIx tabs) (mVar 1) (mVar 7))) mNil)))))) (mSeq (mRet (mC (.bl false))) mPass) mPass) mPass)
theorem pd_strs (M : DM) (n : Nat) : ∀ L : List Str, mapO (pd M (n + 1)) (L.map .str) = some (L.map PyData.str)
  | [] => rfl
  | s :: L => by rw [List.map_cons, List.map_cons]; unfold mapO; rw [pd_strs M n L]; rfl
theorem lays_strs : ∀ {L : List Str}, (∀ k ∈ L, PyData.canLay0 (.str k) = true) → PyData.canLayAll0 (L.map PyData.str) = true
  | [], _ => rfl
  | s :: L, h => by
    rw [List.map_cons]
    show (PyData.canLay0 (.str s) && PyData.canLayAll0 (L.map PyData.str)) = true
    rw [h s List.mem_cons_self, lays_strs fun k hk => h k (List.mem_cons_of_mem _ hk)]; rfl
theorem deps_strs : ∀ L : List Str, PyData.depthAll (L.map PyData.str) = 0
  | [] => rfl
  | s :: L => by
    rw [List.map_cons]
    show max (PyData.depth (.str s)) (PyData.depthAll (L.map PyData.str)) = 0
    rw [deps_strs L]; rfl
theorem erase_map {α β : Type} (f : α → β) : ∀ (L : List α) (i : Nat), (L.map f).eraseIdx i = (L.eraseIdx i).map f
  | [], _ => rfl
  | _ :: _, 0 => rfl
  | a :: L, i + 1 => by rw [List.map_cons, List.eraseIdx_cons_succ, List.eraseIdx_cons_succ, List.map_cons, erase_map f L i]
section
variable {S : DObj → DObj → DM} (h : Two S)
include h
theorem cond_run (is : List Int) (o1 : DObj) (L : List Str) (c : Int) (q : Option DV) (hg : ∀ k ∈ L, PyData.canLay0 (.str k) = true) : wcond (dl is c q) (S o1 (.lst (L.map .str))) = .ok (!L.isEmpty) (S o1 (.lst (L.map .str))) := by
  have e : pd (S o1 (.lst (L.map .str))) 30 (.obj 341) = some (.list (L.map PyData.str)) := by
    show (match (S o1 (.lst (L.map .str)))[341]? with
      | some (.lst ds) => (mapO (pd (S o1 (.lst (L.map .str))) 29) ds).map PyData.list
      | _ => none) = _
    rw [h.g2]
    show (mapO (pd _ 29) (L.map .str)).map PyData.list = _
    rw [pd_strs]; rfl
  have s1 : SeqAt.shaped (.list (L.map PyData.str)) = true := by
    show (PyData.canLayAll0 (L.map PyData.str) && decide (PyData.depthAll (L.map PyData.str) + 1 ≤ 64)) = true
    rw [lays_strs hg, deps_strs]; rfl
  have s2 : SeqAt.shaped (.list []) = true := by decide
  have v : PyData.eqv (.list (L.map PyData.str)) (.list []) = L.isEmpty := by cases L <;> simp [PyData.eqv, PyData.eqvAll]
  have oe : opEq (S o1 (.lst (L.map .str))) (.v (.obj 341)) (.lst []) = some L.isEmpty := by
    show (match pd (S o1 (.lst (L.map .str))) 30 (.obj 341), some (PyData.list []) with
      | some d, some e => if SeqAt.shaped d = true ∧ SeqAt.shaped e = true then some (PyData.eqv d e) else none
      | _, _ => none) = _
    rw [e]
    show (if SeqAt.shaped (.list (L.map PyData.str)) = true ∧ SeqAt.shaped (.list []) = true then some (PyData.eqv (.list (L.map PyData.str)) (.list [])) else none) = _
    rw [if_pos ⟨s1, s2⟩, v]
  have ox : opEqX (S o1 (.lst (L.map .str))) (.v (.obj 341)) (.lst []) = some L.isEmpty := by
    have u : asU (S o1 (.lst (L.map .str))) (.v (.obj 341)) = none := by
      unfold asU
      dsimp only
      rw [h.g2]
    unfold opEqX
    rw [u]
    exact oe
  simp [wcond, mCmpT, m2, mVar, dl, Res.bind, mLst, mNil, ansT, opCmpX, ox]
theorem pop_run (is : List Int) (x y z : Int) (L : List Str) (c : Int) (q : Option DV) (hL : L ≠ []) (hn : L.length ≤ 1000) (hy : 0 ≤ y ∧ y < 2147483647) (hz : 0 ≤ z ∧ z < 1000000) :
    ∃ x' z' k i, i < L.length ∧ L[i]? = some k ∧ 0 ≤ z' ∧ z' ≤ z + 1 ∧ (mSet 7 (mV (mMt "list" gPop (mV (mVar 6)) (mCons (mV (mCallF run__law_draw [] 2 (mCons (mV (mVar 5)) (mCons (mV (mBlt bLen (mConsR (mVar 6) mNilR))) mNil)))) mNil)))) (dl is c q) (S (.lst [.int x, .int y, .int z]) (.lst (L.map .str))) = .nx (dl is c (some (.str k))) (S (.lst [.int x', .int y, .int z']) (.lst ((L.eraseIdx i).map .str))) := by
  have len : 0 < L.length := List.length_pos_iff.mpr hL
  obtain ⟨x', z', d, e, d0, d1, z0, z1⟩ := draw_run _ 340 x y z (L.length : Int) (h.g1 _ (.lst (L.map .str))) hy hz ⟨by omega, by omega⟩
  rw [h.s1] at e
  obtain ⟨i, rfl⟩ := Int.eq_ofNat_of_zero_le d0
  have hi : i < L.length := by omega
  refine ⟨x', z', L[i], i, hi, List.getElem?_eq_getElem hi, z0, z1, ?_⟩
  have si : seqIndex? (i : Int) L.length = some i := by
    unfold seqIndex?
    simp
    omega
  have m0 : ∀ o, lstAt (S o (.lst (L.map .str))) (.obj 341) = some (341, L.map .str) := fun o => by unfold lstAt; dsimp only; rw [h.g2]
  have k0 : ∀ o, kindD "list" (S o (.lst (L.map .str))) (.obj 341) = true := fun o => by unfold kindD; rw [if_pos rfl, m0]; rfl
  have g0 : gPop (S (.lst [.int x', .int y, .int z']) (.lst (L.map .str))) (.obj 341) [.int (i : Int)] = some (.v (.str L[i]), S (.lst [.int x', .int y, .int z']) (.lst ((L.eraseIdx i).map .str))) := by
    unfold gPop
    rw [m0]
    dsimp only
    rw [if_pos (by omega), List.length_map, si]
    dsimp only
    rw [List.getElem?_map, List.getElem?_eq_getElem hi, h.s2, erase_map]
    rfl
  have b0 : bLen (S (.lst [.int x, .int y, .int z]) (.lst (L.map .str))) [.v (.obj 341)] = some (.v (.int (L.length : Int))) := by
    have a : asS (S (.lst [.int x, .int y, .int z]) (.lst (L.map .str))) (.v (.obj 341)) = some (L.map .str) := by
      show (match (S (.lst [.int x, .int y, .int z]) (.lst (L.map .str)))[341]? with
        | some (.lst ds) => some ds
        | _ => none) = _
      rw [h.g2]
    show (match asS (S (.lst [.int x, .int y, .int z]) (.lst (L.map .str))) (.v (.obj 341)) with
      | some ds => some (RV.v (.int ds.length))
      | none => _) = _
    rw [a]
    dsimp only
    rw [List.length_map]
  have k1 := k0 (.lst [.int x, .int y, .int z])
  generalize S (.lst [.int x, .int y, .int z]) (.lst (L.map .str)) = M1 at b0 e k1 ⊢
  simp [mSet, mV, mat, mMt, mCons, mNil, mCallF, mVar, dl, mBlt, mConsR, mNilR, Res.bind, thenE, ansR, k1, b0, e, g0]
omit h in
theorem test_run (is : List Int) {k : Str} (g : Good S k) (x y z : Int) (L : List Str) (c : Int) : (mNotT (mTru (mCallF run__law_right [] 3 (mCons (mV (mVar 2)) (mCons (mV (mVar 7)) (mCons (mV (mBin (opIx tabs) (mVar 1) (mVar 7))) mNil)))))) (dl is c (some (.str k))) (S (.lst [.int x, .int y, .int z]) (.lst (L.map .str))) = .ok false (S (.lst [.int x, .int y, .int z]) (.lst (L.map .str))) := by
  obtain ⟨d, i0, e⟩ := g.run x y z L
  have i1 := i0 (.lst [.int x, .int y, .int z]) (.lst (L.map .str))
  generalize S (.lst [.int x, .int y, .int z]) (.lst (L.map .str)) = M1 at e i1 ⊢
  simp [mNotT, mTru, mCallF, mCons, mNil, mV, mat, mBin, m2, mVar, dl, Res.bind, ansR, ansT, truR, i1, e]
theorem body_run (is : List Int) (x y z : Int) (L : List Str) (c : Int) (q : Option DV) (hL : L ≠ []) (hg : ∀ k ∈ L, Good S k) (hn : L.length ≤ 1000) (hy : 0 ≤ y ∧ y < 2147483647) (hz : 0 ≤ z ∧ z < 1000000) :
    ∃ x' z' k i, i < L.length ∧ 0 ≤ z' ∧ z' ≤ z + 1 ∧ wbody (dl is c q) (S (.lst [.int x, .int y, .int z]) (.lst (L.map .str))) = .nx (dl is c (some (.str k))) (S (.lst [.int x', .int y, .int z']) (.lst ((L.eraseIdx i).map .str))) := by
  obtain ⟨x', z', k, i, hi, hk, z0, z1, e⟩ := pop_run h is x y z L c q hL hn hy hz
  refine ⟨x', z', k, i, hi, z0, z1, ?_⟩
  have t := test_run is (hg k (List.mem_of_getElem? hk)) x' y z' (L.eraseIdx i) c
  unfold wbody
  unfold mSeq
  rw [e]
  dsimp only
  unfold mIfS thenE
  rw [t]
  rfl
theorem while_run (is : List Int) (y c : Int) (hy : 0 ≤ y ∧ y < 2147483647) : ∀ (n : Nat) (L : List Str) (x z : Int) (q : Option DV), L.length < n → (∀ k ∈ L, Good S k) → L.length ≤ 1000 → 0 ≤ z → z + L.length < 1000000 →
    ∃ x' z' q', mWhile n wcond wbody (dl is c q) (S (.lst [.int x, .int y, .int z]) (.lst (L.map .str))) = .nx (dl is c q') (S (.lst [.int x', .int y, .int z']) (.lst []))
  | 0, L, _, _, _, hl, _, _, _, _ => absurd hl (Nat.not_lt_zero _)
  | n + 1, L, x, z, q, hl, hg, hn, z0, zb => by
    unfold mWhile
    rw [cond_run h is _ _ _ _ fun k hk => (hg k hk).lay]
    unfold thenE
    dsimp only
    by_cases hL : L = []
    · subst hL
      exact ⟨x, z, q, rfl⟩
    · rw [if_pos (by cases L with | nil => exact absurd rfl hL | cons _ _ => rfl)]
      have lp : 0 < L.length := List.length_pos_iff.mpr hL
      obtain ⟨x1, z1, k, i, hi, p0, p1, e⟩ := body_run h is x y z L c q hL hg hn hy ⟨z0, by omega⟩
      rw [e]
      dsimp only
      have le : (L.eraseIdx i).length = L.length - 1 := List.length_eraseIdx_of_lt hi
      exact while_run is y c hy n (L.eraseIdx i) x1 z1 (some (.str k)) (by omega) (fun k hk => hg k (List.mem_of_mem_eraseIdx hk)) (by omega) p0 (by omega)
end
/-! ## k08: a turn of the outer loop, the end -/
def turnL : DSt := mSeq (mSet 5 (mV (mCallF run__law_source [] 1 (mCons (mV (mVar 4)) mNil)))) (mSeq (mSet 6 (mV (mBlt bSorted (mConsR (mVar 1) mNilR)))) (mSeq (mWhile 100 wcond wbody) mPass))
theorem s6_run (is : List Int) (x y z c : Int) : (mSet 6 (mV (mBlt bSorted (mConsR (mVar 1) mNilR)))) [some (.scr is), some (.obj 7), some (.obj 44), some (.obj 188), some (.int c), some (.obj 340), none, none, none] (MK.push (.lst [.int x, .int y, .int z])) = .nx (dl is c none) (stt (.lst [.int x, .int y, .int z]) (.lst (names.map .str))) := by kernel_rfl
theorem s5_run (is : List Int) (c : Int) : ∃ x y, (0 ≤ y ∧ y < 2147483647) ∧ (mSet 5 (mV (mCallF run__law_source [] 1 (mCons (mV (mVar 4)) mNil)))) [some (.scr is), some (.obj 7), some (.obj 44), some (.obj 188), some (.int c), none, none, none, none] MK = .nx [some (.scr is), some (.obj 7), some (.obj 44), some (.obj 188), some (.int c), some (.obj 340), none, none, none] (MK.push (.lst [.int x, .int y, .int 0])) := by
  obtain ⟨x, y, e, h⟩ := source_run c MK
  refine ⟨x, y, h, ?_⟩
  have l := m0_len
  generalize MK = M at e l ⊢
  simp [mSet, mV, mat, mCallF, mCons, mNil, mVar, Res.bind, thenE, e, l]
theorem turn_run (is : List Int) (c : Int) : ∃ δ2 M2, turnL [some (.scr is), some (.obj 7), some (.obj 44), some (.obj 188), some (.int c), none, none, none, none] MK = .nx δ2 M2 ∧ forget 340 [5, 6, 7, 4] δ2 M2 = some (DK is, MK) := by
  obtain ⟨x, y, hy, e5⟩ := s5_run is c
  obtain ⟨x', z', q', ew⟩ := while_run two_stt is y c hy 100 names x 0 none (by decide) good_all (by decide) (Int.le_refl _) (by decide)
  refine ⟨dl is c q', stt (.lst [.int x', .int y, .int z']) (.lst []), ?_, ?_⟩
  · unfold turnL mSeq
    rw [e5]
    dsimp only
    rw [s6_run]
    dsimp only
    rw [ew]
    rfl
  · have t : (stt (.lst [.int x', .int y, .int z']) (.lst [])).take 340 = MK := by
      exact stt_cut _ _
    unfold forget
    rw [t]
    have w : wipeD (dl is c q') [5, 6, 7, 4] = DK is := by unfold dl; rfl
    rw [w, if_pos ⟨by rfl, m0_closed⟩]
theorem loop_run (is : List Int) (it : ItV) (hg : it.guard = none) : ∀ cs : List Int, loopFG it (.nm 4) turnL 340 [5, 6, 7, 4] (cs.map .int) (DK is) MK = .nx (DK is) MK
  | [] => by
    show (if okIt it MK = true then _ else _) = _
    rw [if_pos (by unfold okIt; rw [hg])]
  | c :: cs => by
    obtain ⟨δ2, M2, e, f⟩ := turn_run is c
    rw [List.map_cons]
    unfold loopFG
    rw [if_pos (by unfold okIt; rw [hg])]
    show (match turnL [some (.scr is), some (.obj 7), some (.obj 44), some (.obj 188), some (.int c), none, none, none, none] MK with
      | .nx δ2 M2 => match forget 340 [5, 6, 7, 4] δ2 M2 with
        | some p => loopFG it (.nm 4) turnL 340 [5, 6, 7, 4] (cs.map .int) p.1 p.2
        | none => .bad
      | .ct δ2 M2 => match forget 340 [5, 6, 7, 4] δ2 M2 with
        | some p => loopFG it (.nm 4) turnL 340 [5, 6, 7, 4] (cs.map .int) p.1 p.2
        | none => .bad
      | .brk δ2 M2 => .nx δ2 M2
      | o => o) = _
    rw [e]
    dsimp only
    rw [f]
    exact loop_run is it hg cs
theorem cut_map (is : List Int) (lo hi : Option Int) : ∃ cs : List Int, cutD (is.map .int) lo hi = cs.map .int ∧ cs.length ≤ is.length := by
  refine ⟨(is.drop (HT.sIx (is.map DV.int).length 0 lo)).take (HT.sIx (is.map DV.int).length (is.map DV.int).length hi - HT.sIx (is.map DV.int).length 0 lo), ?_, ?_⟩
  · unfold cutD
    rw [List.map_take, List.map_drop]
  · rw [List.length_take, List.length_drop]
    omega
theorem cells_run (is : List Int) (hl : is.length ≤ 63) : ∃ cs : List Int, (mIter (mBin opAdd (mLst (mCons (mV (mCallF run__law_cell_at [] 2 (mCons (mV (mVar 0)) (mCons (mV (mC (.int 0))) mNil)))) mNil)) (mSl (mVar 0) (mPart (mC (.int 1))) (mPart (mC (.int 4)))))) (DK is) MK = .ok ⟨cs.map .int, none⟩ MK := by
  obtain ⟨c, e⟩ := cellat_run is MK
  obtain ⟨cs, ec, lc⟩ := cut_map is (some 1) (some 4)
  refine ⟨c :: cs, ?_⟩
  have a : asL MK (.v (.scr is)) = some (is.map .int) := rfl
  have le : cs.length ≤ 63 := Nat.le_trans lc hl
  have e' : run__law_cell_at [.scr is, .int 0] MK = .ok (.v (.int c)) MK := e
  have sl : opSl MK (.v (.scr is)) (some 1) (some 4) = some (.lst (cs.map .int)) := by
    show (asL MK (.v (.scr is))).map (fun ds => RV.lst (cutD ds (some 1) (some 4))) = _
    rw [a, Option.map_some, ec]
  generalize MK = M at e' sl ⊢
  have add : opAdd M (.lst [.int c]) (.lst (cs.map .int)) = some (.lst (.int c :: cs.map .int)) := by
    show (match asL M (.lst [.int c]), asL M (.lst (cs.map .int)) with
      | some a, some b => if a.length + b.length ≤ LIM then some (RV.lst (a ++ b)) else none
      | _, _ => none) = _
    show (if [DV.int c].length + (cs.map DV.int).length ≤ LIM then _ else _) = _
    rw [List.length_map, if_pos (by show 1 + cs.length ≤ 100000; omega)]
    rfl
  have d0 : (DK is)[0]? = some (some (.scr is)) := rfl
  simp [LIM, mIter, mBin, m2, mLst, mCons, mNil, mV, mat, mCallF, mC, mVar, mSl, mPart, Res.bind, ansR, d0, e', sl, add, itOf]
def resS : SOut → DM
  | .ret _ M => M
  | _ => .nil
theorem try_run (is : List Int) : ∃ M2, (mTry exm_BadKind 8 (mSeq (mExpr (mMeth meth_fields_1 "fields" 1 (mV (mVar 2)) (mCons (mV (mC (.str "zoo"))) mNil)))
      mPass) (fun ee => (mSeq (mRet (mAndV (mCmp (opCmpX .Eq) (mExf xfd ee "kind" (mV (mVar 8))) (mC (.str "zoo"))) (mCmp (opCmpX .Eq) (mMeth meth_kinds_0 "kinds" 0 (mV (mVar 2)) mNil) (mBlt bSorted (mConsR (mVar 1) mNilR)))))
      mPass))) (DK is) MK = .ret (.v (.bl true)) M2 := ⟨resS ((mTry exm_BadKind 8 (mSeq (mExpr (mMeth meth_fields_1 "fields" 1 (mV (mVar 2)) (mCons (mV (mC (.str "zoo"))) mNil)))
      mPass) (fun ee => (mSeq (mRet (mAndV (mCmp (opCmpX .Eq) (mExf xfd ee "kind" (mV (mVar 8))) (mC (.str "zoo"))) (mCmp (opCmpX .Eq) (mMeth meth_kinds_0 "kinds" 0 (mV (mVar 2)) mNil) (mBlt bSorted (mConsR (mVar 1) mNilR)))))
      mPass))) (DK is) MK), by kernel_rfl⟩
theorem seq_ret {a b : DSt} {δ : DS} {M M1 : DM} {r : RV} (h : a δ M = .ret r M1) : mSeq a b δ M = .ret r M1 := by
  unfold mSeq
  rw [h]
theorem fnRun_ret {n : Nat} {m : DSt} {ds : List DV} {M M1 : DM} {r : RV} (h : m (startD n ds) M = .ret r M1) : fnRun n m ds M = .ok r M1 := by
  unfold fnRun
  rw [h]
theorem law_run (is : List Int) (hl : is.length ≤ 63) : ∃ M2, run_law [.scr is] .nil = .ok (.v (.bl true)) M2 := by
  obtain ⟨cs, ec⟩ := cells_run is hl
  obtain ⟨M2, et⟩ := try_run is
  refine ⟨M2, ?_⟩
  have lp : mForG [5, 6, 7, 4] (mIter (mBin opAdd (mLst (mCons (mV (mCallF run__law_cell_at [] 2 (mCons (mV (mVar 0)) (mCons (mV (mC (.int 0))) mNil)))) mNil)) (mSl (mVar 0) (mPart (mC (.int 1))) (mPart (mC (.int 4)))))) (.nm 4) turnL (DK is) MK = .nx (DK is) MK := by
    unfold mForG thenE
    rw [ec]
    dsimp only
    rw [m0_len]
    exact loop_run is _ rfl cs
  have sp : ∀ (a b : DSt) (δ : DS) (M : DM) (δ1 : DS) (M1 : DM), a δ M = .nx δ1 M1 → mSeq a b δ M = b δ1 M1 := fun a b δ M δ1 M1 h => by unfold mSeq; rw [h]
  have as_ : ∀ a b c : DSt, mSeq (mSeq a b) c = mSeq a (mSeq b c) := fun a b c => by
    funext δ M
    unfold mSeq
    cases a δ M <;> rfl
  have ps : ∀ a : DSt, mSeq mPass a = a := fun a => rfl
  have em : m_law = mSeq preL (mSeq (mForG [5, 6, 7, 4] (mIter (mBin opAdd (mLst (mCons (mV (mCallF run__law_cell_at [] 2 (mCons (mV (mVar 0)) (mCons (mV (mC (.int 0))) mNil)))) mNil)) (mSl (mVar 0) (mPart (mC (.int 1))) (mPart (mC (.int 4)))))) (.nm 4) turnL) (mSeq (mTry exm_BadKind 8 (mSeq (mExpr (mMeth meth_fields_1 "fields" 1 (mV (mVar 2)) (mCons (mV (mC (.str "zoo"))) mNil)))
      mPass) (fun ee => (mSeq (mRet (mAndV (mCmp (opCmpX .Eq) (mExf xfd ee "kind" (mV (mVar 8))) (mC (.str "zoo"))) (mCmp (opCmpX .Eq) (mMeth meth_kinds_0 "kinds" 0 (mV (mVar 2)) mNil) (mBlt bSorted (mConsR (mVar 1) mNilR)))))
      mPass))) (mSeq (mRet (mC (.bl false))) mPass))) := by
    unfold preL
    simp only [as_, ps]
    rfl
  have e : m_law (dl0 is) .nil = .ret (.v (.bl true)) M2 := by
    rw [em, sp _ _ _ _ _ _ (pre_ok is), sp _ _ _ _ _ _ lp]
    exact seq_ret et
  unfold run_law
  exact fnRun_ret e
end
end Lk
end

section
set_option Elab.async false
set_option linter.all false
set_option maxRecDepth 100000
set_option maxHeartbeats 4000000
namespace Lk
open PySem PySem.Spec PyProof.Rows L2
/-! ### the law is called where no repr is under way: one end, with tables of lambdas (cs) or without -/
open Classical in
/-- what is told of the heap when the law starts: each table is empty, the script is a list of nums that nobody writes (where it is no written thing) -/
noncomputable def startHp (K : PySem.W.Frag) (cs : List (Addr × Addr)) (a : Addr) (vs : List Value) (ns : List Int) : Hp := fun b =>
  if b ∈ cs.map (·.2) then some (.tbl #[]) else if b = a ∧ K.lookup a = none then some (.frz { cls := .type "list", data := .seq vs.toArray } (.lst (ns.map V.int))) else none
section
variable {P : Program} {w : World} {K : PySem.W.Frag} {h : Heap} {cs : List (Addr × Addr)} {a : Addr} {vs : List Value} {ns : List Int}
abbrev scriptO (vs : List Value) : Obj := { cls := .type "list", data := .seq vs.toArray }
abbrev tableO : Obj := { cls := .none, data := .fields #[] }
theorem start_table {b : Addr} (tb : b ∈ cs.map (·.2)) : startHp K cs a vs ns b = some (.tbl #[]) := if_pos tb
theorem start_script (no : a ∉ cs.map (·.2)) (free : K.lookup a = none) : startHp K cs a vs ns a = some (.frz (scriptO vs) (.lst (ns.map V.int))) := (if_neg no).trans (if_pos ⟨rfl, free⟩)
/-- the two ways in which something is told of a place -/
theorem start_told {b : Addr} {u : HO} (told : startHp K cs a vs ns b = some u) : (b ∈ cs.map (·.2) ∧ u = .tbl #[]) ∨ ((b = a ∧ K.lookup a = none) ∧ u = .frz (scriptO vs) (.lst (ns.map V.int))) := by
  unfold startHp at told
  by_cases tb : b ∈ cs.map (·.2)
  · exact .inl ⟨tb, (Option.some.inj ((if_pos tb).symm.trans told)).symm⟩
  · rw [if_neg tb] at told
    by_cases sc : b = a ∧ K.lookup a = none
    · exact .inr ⟨sc, (Option.some.inj ((if_pos sc).symm.trans told)).symm⟩
    · rw [if_neg sc] at told; exact nomatch told
variable (tabs : ∀ b ∈ cs.map (·.2), h.get? b = some tableO) (script : h.get? a = some (scriptO vs))
include tabs script
theorem start_apart : a ∉ cs.map (·.2) := fun tb => nomatch script.symm.trans (tabs a tb)
/-- nothing is told of a place with an object of another shape -/
theorem start_other {b : Addr} {o : Obj} (there : h.get? b = some o) (n1 : o ≠ tableO) (n2 : o ≠ scriptO vs) : startHp K cs a vs ns b = none := by
  match e : startHp K cs a vs ns b with
  | none => rfl
  | some u =>
    rcases start_told e with ⟨tb, _⟩ | ⟨⟨rfl, _⟩, _⟩
    · exact absurd (Option.some.inj (there.symm.trans (tabs b tb))) n1
    · exact absurd (Option.some.inj (there.symm.trans script)) n2
theorem start_ok (nums : IntsAre vs ns) (few : ns.length ≤ sizeLine) : HOk P w (startHp K cs a vs ns) h := fun b u told => by
  rcases start_told told with ⟨tb, rfl⟩ | ⟨⟨rfl, _⟩, rfl⟩
  · exact tabs b tb
  · exact ⟨script, (List.length_map (f := V.int) (as := ns)).symm ▸ few, vs, _, vals_ints nums, script⟩
theorem start_seq (kin : K.In h) (nums : IntsAre vs ns) (few : ns.length ≤ sizeLine) : SqF K (startHp K cs a vs ns) a (ns.map V.int) := by
  match e : K.lookup a with
  | none => exact .inl ⟨_, start_script (start_apart tabs script) e⟩
  | some o =>
    have same : o = scriptO vs := Option.some.inj ((kin a o e).symm.trans script)
    subst same
    exact .inr <| .inr ⟨_, vs.toArray, _, e, rfl, rfl, rfl, by rw [List.size_toArray, nums.length]; exact few, by simpa using vals_ints nums⟩
/-- the rest of the heap, with what is told hidden -/
theorem start_ns {b : Addr} {m : Str → Option Value} (n : h.Ns b m) : (hidT h (startHp K cs a vs ns)).Ns b m :=
  have ⟨o, es, ep, there, dict, r⟩ := n
  ⟨o, es, ep, hidT_get there (start_other tabs script there (fun e => by rw [e] at dict; exact nomatch dict) (fun e => by rw [e] at dict; exact nomatch dict)), dict, r⟩
theorem start_in (kin : K.In h) (out : ∀ b ∈ cs.map (·.2), K.lookup b = none) : K.In (hidT h (startHp K cs a vs ns)) := fun b o look => by
  match e : startHp K cs a vs ns b with
  | none => exact hidT_get (kin b o look) e
  | some u =>
    rcases start_told e with ⟨tb, _⟩ | ⟨⟨rfl, free⟩, _⟩
    · exact nomatch look.symm.trans (out b tb)
    · exact nomatch look.symm.trans free
end
section
variable {P : Program} {w : World} {K : PySem.W.Frag} {mg mb : Str → Option Value} {h : Heap} {cs : List (Addr × Addr)} {a : Addr} {vs : List Value} {ns : List Int}
/-- the module of the builtins, as the head leaves it -/
abbrev BMain (mg : Str → Option Value) (h : Heap) : Prop := ∃ (bm : Addr) (ob : Obj), mg "__builtins__" = some (.ref bm) ∧ bm ≠ builtinsNs ∧ h.get? bm = some ob ∧ ob.cls = .type "module" ∧ ob.dict = some builtinsNs ∧ ob.data = .plain
/-- a place with a dict's payload, a place with a plain one and a table are three places -/
theorem ns_apart {b c : Addr} {m : Str → Option Value} {o : Obj} (n : h.Ns b m) (there : h.get? c = some o) (no : ∀ es ep, o.data ≠ .dict es ep) : b ≠ c := fun e => by
  have ⟨o', es, ep, at_, dict, _⟩ := n
  exact no _ _ (Option.some.inj ((e ▸ at_).symm.trans there) ▸ dict)
theorem start_tab (tabs : ∀ b ∈ cs.map (·.2), h.get? b = some tableO) (script : h.get? a = some (scriptO vs)) (glob : h.Ns mainGlobals mg) (bmain : BMain mg h) {p : Addr × Addr} (hp : p ∈ cs) (code : PySem.W.CodeHd h p.1 p.2) : LamX.TabB (hidT h (startHp K cs a vs ns)) mg p.1 p.2 := by
  have tp := tabs p.2 (List.mem_map_of_mem hp)
  have ⟨bm, ob, b1, b2, b3, b4, b5, b6⟩ := bmain
  refine ⟨?_, ⟨bm, ob, b1, b2, ?_, ?_, hidT_get b3 (start_other tabs script b3 (fun e => ?_) fun e => ?_), b4, b5, b6⟩, ns_apart glob tp fun _ _ z => nomatch z⟩
  · have ⟨o, us, file, tf, flags, tg, inF, text, tt, there, cls, rest⟩ := code
    exact ⟨o, us, file, tf, flags, tg, inF, text, tt, hidT_get there (start_other tabs script there (fun e => by rw [e] at cls; exact nomatch cls) fun e => by rw [e] at cls; exact absurd cls (show ¬ Value.type "list" = Value.type "code" by decide)), cls, rest⟩
  · exact (ns_apart glob b3 fun _ _ z => nomatch b6.symm.trans z).symm
  · intro e
    rw [e, tp] at b3
    cases b3
    cases b6
  · rw [e] at b6; exact nomatch b6
  · rw [e] at b6; exact nomatch b6
end
section
variable {P : Program} {w : World} {K : PySem.W.Frag} {mg mb : Str → Option Value} {CX : CXT} {k : Nat} {fa a : Addr} {cs : List (Addr × Addr)} {fd : FuncData} {x : Str} {sp : Sp} {s₁ : Shared} {vs : List Value} {ns : List Int}
/-- what the run leaves: a table may have grown, all else that was there is as it was -/
theorem left_old {H2 : Hp} {h' : Heap} (tabs : ∀ b ∈ cs.map (·.2), s₁.heap.get? b = some tableO) (script : s₁.heap.get? a = some (scriptO vs)) (code : ∀ p ∈ cs, PySem.W.CodeHd s₁.heap p.1 p.2)
    (un : Un [] [] (startHp K cs a vs ns) H2 s₁.heap h') (ok2 : HOk P w H2 h') : OldK s₁.heap h' := by
  have grown : ∀ b ∈ cs.map (·.2), ∃ more : Array Value, h'.get? b = some { cls := .none, data := .fields (#[] ++ more) } := fun b tb =>
    have ⟨more, told⟩ := un.tbls b #[] (start_table tb)
    ⟨more, ok2 b _ told⟩
  have same : ∀ b o, b ∉ cs.map (·.2) → s₁.heap.get? b = some o → h'.get? b = some o := fun b o no there => by
    match e : startHp K cs a vs ns b with
    | none => exact un.keep b o there e (fun z => nomatch z) (fun z => nomatch z)
    | some u =>
      rcases start_told e with ⟨tb, _⟩ | ⟨⟨rfl, _⟩, rfl⟩
      · exact absurd tb no
      · exact (ok2 b _ (un.frzs b _ _ e)).1.trans (script.symm.trans there)
  refine ⟨fun b o there => ?_, fun b o there => ?_⟩ <;> by_cases tb : b ∈ cs.map (·.2)
  · have ⟨more, now⟩ := grown b tb
    have ⟨p, hp, ep⟩ := List.mem_map.mp tb
    subst ep
    cases there.symm.trans (tabs _ tb)
    exact .inr (.inl ⟨((code p hp).tab (tabs _ tb)).isCodeTable, rfl, #[], more, rfl, now⟩)
  · exact .inl (same b o tb there)
  · have ⟨_, now⟩ := grown b tb; exact ⟨_, now⟩
  · exact ⟨o, same b o tb there⟩
/-- the call of the law: True, and nothing old is another but for tables that have grown -/
theorem law_end (kin : K.In s₁.heap) (glob : s₁.heap.Ns mainGlobals mg) (blt : s₁.heap.Ns builtinsNs mb) (boot : ∀ x : Str, x ≠ "__name__" → mb x = bootBuiltins x) (lim : s₁.heap.NoLimit) (gens : s₁.gens = #[]) (bmain : BMain mg s₁.heap)
    (tabs : ∀ b ∈ cs.map (·.2), s₁.heap.get? b = some tableO) (out : ∀ b ∈ cs.map (·.2), K.lookup b = none) (code : ∀ p ∈ cs, PySem.W.CodeHd s₁.heap p.1 p.2) (script : s₁.heap.get? a = some (scriptO vs)) (nums : IntsAre vs ns) (few : ns.length ≤ sizeLine) (room : Room k callerA)
    (F : ∀ base : Heap, K.In base → base.Ns mainGlobals mg → (∀ p ∈ cs, LamX.TabB base mg p.1 p.2) → FnG P w K mg base CX k fa fd [x] sp) (bind_ : ∀ (s : Shared) (u : Value), BindsTo s fd ⟨[u], []⟩ [(x, u)])
    (spec : ∀ H : Hp, (∀ b ∈ cs.map (·.2), H b = some (.tbl #[])) → SqF K H a (ns.map V.int) → sp [.ref a] H (fun v _ => v = .bl true) fun _ _ _ => False) (never : ∀ H e s', CX [] H s₁ (fun _ _ _ => False) e s' → False) :
    codeAny (model P w) callerA (.call (.ref fa) ⟨[.ref a], []⟩) (fun r s' => r = .ok (.ret (.bool true)) ∧ OldK s₁.heap s'.heap ∧ s'.os = s₁.os ∧ AllBare s'.gens) s₁ := by
  have ok := start_ok (P := P) (w := w) (K := K) tabs script nums few
  have kin' := start_in (ns := ns) tabs script kin out
  have glob' := start_ns (K := K) (ns := ns) tabs script glob
  have lim' : (hidT s₁.heap (startHp K cs a vs ns)).NoLimit := have ⟨mc, n, no⟩ := lim; ⟨mc, start_ns tabs script n, no⟩
  have env : Env0 P w K mg (hidT s₁.heap (startHp K cs a vs ns)) callerA [] s₁ (startHp K cs a vs ns) :=
    ⟨rfl, ⟨kin', glob', ⟨mb, start_ns tabs script blt, boot⟩, lim'⟩, fun _ _ => of_hidT, Nat.le_of_eq (hidT_size ..), trivial, (fun _ z => nomatch z), ok, .of_eq gens⟩
  have run_ := (F _ kin' glob' fun p hp => start_tab tabs script glob bmain hp (code p hp)).run callerA [] s₁ _ ⟨[.ref a], []⟩ [.ref a] [.ref a] _ _ room rfl env (bind_ s₁ (.ref a)) (.cons rfl .nil) (spec _ (fun _ => start_table) (start_seq tabs script kin nums few))
  refine codeAny_mono run_ fun r s2 done => ?_
  match r, done with
  | .error er, done => exact (never _ er s2 done).elim
  | .ok (.ret u), ⟨v, H2, os2, bare2, un, ok2, rel, ev⟩ =>
    cases (show v = .bl true from ev)
    cases (show u = Value.bool true from rel)
    exact ⟨rfl, left_old tabs script code un ok2, os2, bare2⟩
/-- the end of a law that asks repr and makes lambdas -/
theorem walk_ofTG {l : PySem.W.OpenLaw} {n : Nat} {q : Program} {loose : List Str} {XP : (Str → Option Value) → Heap → Prop} {YP : World → Heap → Prop} {d : DefRec} {CX : World → CXT}
    (hn : l.most = some n) (hn2 : n ≤ sizeLine) (hdf : d.params.defaults = []) (room : Room k callerA)
    (F : ∀ (w : World) (mg : Str → Option Value) (fa : Addr) (h : Heap), YP w h → h.Ns mainGlobals mg → mg d.name = some (.ref fa) →
      ∃ (K : PySem.W.Frag), K.In h ∧ ∃ (fd : FuncData) (cs : List (Addr × Addr)) (sp : Sp), (∀ p ∈ cs, h.get? p.2 = some tableO) ∧ (∀ p ∈ cs, K.lookup p.2 = none) ∧ (∀ p ∈ cs, PySem.W.CodeHd h p.1 p.2) ∧ (∀ (s : Shared) (u : Value), BindsTo s fd ⟨[u], []⟩ [(x, u)]) ∧
        (∀ (H : Hp) (a : Addr) (ns : List Int), ns.length ≤ n → (∀ z ∈ ns, Builtin.Int.intBits z ≤ 1048576) → (∀ p ∈ cs, H p.2 = some (.tbl #[])) → SqF K H a (ns.map V.int) → sp [.ref a] H (fun v _ => v = .bl true) fun _ _ _ => False) ∧
        ∀ base : Heap, K.In base → base.Ns mainGlobals mg → (∀ p ∈ cs, LamX.TabB base mg p.1 p.2) → FnG l.prog w K mg base (CX w) k fa fd [x] sp)
    (never : ∀ (w : World) (H : Hp) (s : Shared) (e : Value) (s' : Shared), CX w [] H s (fun _ _ _ => False) e s' → False) : PySem.W.WalkO q loose XP YP l.row.toRowW d [] (fun f vs => PySem.call f vs) :=
  have at2 : ∀ {Z : Addr → Prop} {cs : List (Addr × Addr)}, (∀ p ∈ cs, Z p.2) → ∀ b ∈ cs.map (·.2), Z b := fun all b tb => have ⟨p, hp, e⟩ := List.mem_map.mp tb; e ▸ all p hp
  Att.attach_callB hn hdf fun w s₀ s₁ mg mb fa o pm cd doc a vs ns G Y _ _ _ name script nums len bits gens =>
    have ⟨_, kin, _, _, _, tabs, out, code, bind_, spec, fn⟩ := F w mg fa _ Y G.T.g name
    law_end kin G.T.g G.T.b G.T.builtins G.T.nolimit gens G.T.bmain (at2 tabs) (at2 out) code script nums (Nat.le_trans len hn2) room fn bind_ (fun H told sq => spec H a ns len bits (fun p hp => told _ (List.mem_map_of_mem hp)) sq) fun H e s' => never w H s₁ e s'
/-- .. and of one that makes none -/
theorem walk_ofG {l : PySem.W.OpenLaw} {n : Nat} {q : Program} {loose : List Str} {XP : (Str → Option Value) → Heap → Prop} {YP : World → Heap → Prop} {d : DefRec} {CX : CXT}
    (hn : l.most = some n) (hn2 : n ≤ sizeLine) (hdf : d.params.defaults = []) (room : Room k callerA)
    (F : ∀ (w : World) (mg : Str → Option Value) (fa : Addr) (h : Heap), YP w h → h.Ns mainGlobals mg → mg d.name = some (.ref fa) → ∃ (K : PySem.W.Frag) (fd : FuncData) (sp : Sp), K.In h ∧ (∀ (s : Shared) (u : Value), BindsTo s fd ⟨[u], []⟩ [(x, u)]) ∧
      (∀ (H : Hp) (a : Addr) (ns : List Int), ns.length ≤ n → SqF K H a (ns.map V.int) → sp [.ref a] H (fun v _ => v = .bl true) fun _ _ _ => False) ∧ ∀ base : Heap, K.In base → base.Ns mainGlobals mg → FnG l.prog w K mg base CX k fa fd [x] sp)
    (never : ∀ (H : Hp) (s : Shared) (e : Value) (s' : Shared), CX [] H s (fun _ _ _ => False) e s' → False) : PySem.W.WalkO q loose XP YP l.row.toRowW d [] (fun f vs => PySem.call f vs) :=
  walk_ofTG (CX := fun _ => CX) hn hn2 hdf room (fun w mg fa h Y glob name => have ⟨K, fd, sp, kin, bind_, spec, fn⟩ := F w mg fa h Y glob name
    ⟨K, kin, fd, [], sp, (fun _ z => nomatch z), (fun _ z => nomatch z), (fun _ z => nomatch z), bind_, fun H a ns len _ _ sq => spec H a ns len sq, fun base kb nb _ => fn base kb nb⟩) fun _ => never
end
/-! ## the law's promise -/
def lnk0 (a : Addr) (ns : List Int) : Lnk where
  ea := 0
  sc := some (a, ns)
  inv := fun K _ H => SqF K H a (ns.map V.int)
  scq := fun h e => by cases e; exact SqF.seq h
  go := fun {K ι ι' H H'} nt _ f h => by
    rcases h with ⟨o, h⟩ | h
    · refine .inl ⟨o, f a (fun m => ?_) _ h ⟨(fun _ z => by cases z), (fun _ z => by cases z), (fun _ z => by cases z)⟩⟩
      obtain ⟨u, q, k⟩ := nt a m
      rw [h] at q; cases q
      rcases k with ⟨_, z⟩ | ⟨_, z⟩ | ⟨_, _, z⟩ | ⟨_, _, _, z⟩ <;> cases z
    · exact .inr h
def sp_law (K : PySem.W.Frag) : Sp := fun vs H Q _ => ∃ (a : Addr) (ns : List Int), vs = [.ref a] ∧ SqF K H a (ns.map V.int) ∧ ns.length ≤ 63 ∧ LamX.Tabs (Tbl.t K) H ∧ ∀ H', Q (.bl true) H'
theorem law_want {K : PySem.W.Frag} {a : Addr} {ns : List Int} {H : Hp} {Q : VK} (hS : SqF K H a (ns.map V.int)) (hl : ns.length ≤ 63) (hT : LamX.Tabs (Tbl.t K) H) (k : ∀ H', Q (.bl true) H') : @spI _ (lnk0 a ns) K ps_law.length run_law [.ref a] H Q (fun _ _ _ => False) := by
  obtain ⟨M2, e2⟩ := law_run ns hl
  generalize run_law = run at e2 ⊢
  refine ⟨rfl, [], .nil, [.scr ns], @Rep.mk _ (lnk0 a ns) _ _ _ _ rfl .nil (fun n h => absurd h (Nat.not_lt_zero _)) (fun n a o h => by simp at h) hT hS, @VRs.cons (lnk0 a ns) _ _ _ _ _ _ _ (@VR.scr (lnk0 a ns) _ _ _ _ _ rfl) (@VRs.nil (lnk0 a ns) _ _ _), ?_⟩
  rw [e2]
  intro ι' v H' A' R' rr
  cases (@vr_bl _ (lnk0 a ns) _ _ _ _ _ rr.1)
  exact k H'
theorem ok_lawE {P : Program} {w : World} {K : PySem.W.Frag} {mg : Str → Option Value} {base : Heap} {fd : FuncData} (T : Txt K mg w) (F : FnP K "law" s_law [] fd) (TB : LamX.TabB base mg (He.codeOf K ("_law_right", none)) (He.tabOf K (He.codeOf K ("_law_right", none)))) : FnG P w K mg base CX0 21 (He.ga K "law") fd ["_law_script"] (sp_law K) :=
  ⟨fun vs H Q E ⟨a, ns, e, _⟩ => by subst e; rfl, fun A outer s H args us vs Q E hr hG e b r ⟨a, ns, ev, hS, hl, hT, k⟩ => by
    subst ev
    have G := @ok_law (lnk0 a ns) P w K mg base fd T F TB
    have want : @spI _ (lnk0 a ns) K ps_law.length run_law [.ref a] H Q (fun _ _ _ => False) := law_want hS hl hT k
    generalize run_law = run at G want
    letI : Lnk := lnk0 a ns
    exact (fn_quiet (sp := fun vs H Q E => @spI _ (lnk0 a ns) K ps_law.length run vs H Q (fun _ _ _ => False)) G (fun _ _ _ _ h => h)).run A outer s H args us [.ref a] Q E hr hG e b r want⟩
theorem facts {P : Program} {w : World} {K : PySem.W.Frag} {h : Heap} {mg : Str → Option Value} {f : Addr} (X : K.In h) (G : h.Ns mainGlobals mg) (hfa : mg ("law" : Str) = some (.ref f)) (c : He.SaysX fa fn ts tf exB w h K) :
    ∃ fd : FuncData, (∀ (s : Shared) (v : Value), BindsTo s fd ⟨[v], []⟩ [("_law_script", v)]) ∧ ∀ base : Heap, K.In base → base.Ns mainGlobals mg → (∀ p ∈ tf.map (He.cT K), LamX.TabB base mg p.1 p.2) → FnG P w K mg base CX0 21 f fd ["_law_script"] (sp_law K) := by
  have cd := c.t.d
  have T : Txt K mg w := ⟨He.glo_ok X G (cd.fact 0 (f := .glo "_wall") rfl),
    cd.def_ 0 (d := dd__wall) rfl,
    He.glo_ok X G (cd.fact 1 (f := .glo "is_integer") rfl),
    cd.def_ 1 (d := dd_is_integer) rfl,
    He.glo_ok X G (cd.fact 2 (f := .glo "is_user_name") rfl),
    cd.def_ 2 (d := dd_is_user_name) rfl,
    He.glo_ok X G (cd.fact 3 (f := .glo "number_of") rfl),
    cd.def_ 3 (d := dd_number_of) rfl,
    He.glo_ok X G (cd.fact 4 (f := .glo "part_of") rfl),
    cd.def_ 4 (d := dd_part_of) rfl,
    He.glo_ok X G (cd.fact 5 (f := .glo "apart") rfl),
    cd.def_ 5 (d := dd_apart) rfl,
    He.glo_ok X G (cd.fact 6 (f := .glo "is_maker") rfl),
    cd.def_ 6 (d := dd_is_maker) rfl,
    He.glo_ok X G (cd.fact 7 (f := .glo "is_name") rfl),
    cd.def_ 7 (d := dd_is_name) rfl,
    He.glo_ok X G (cd.fact 8 (f := .glo "is_label_value") rfl),
    cd.def_ 8 (d := dd_is_label_value) rfl,
    He.glo_ok X G (cd.fact 9 (f := .glo "requirement") rfl),
    cd.def_ 9 (d := dd_requirement) rfl,
    He.glo_ok X G (cd.fact 10 (f := .glo "rows_of") rfl),
    cd.def_ 10 (d := dd_rows_of) rfl,
    He.glo_ok X G (cd.fact 11 (f := .glo "is_selector") rfl),
    cd.def_ 11 (d := dd_is_selector) rfl,
    He.glo_ok X G (cd.fact 12 (f := .glo "is_bounded") rfl),
    cd.def_ 12 (d := dd_is_bounded) rfl,
    He.glo_ok X G (cd.fact 13 (f := .glo "is_sort") rfl),
    cd.def_ 13 (d := dd_is_sort) rfl,
    He.glo_ok X G (cd.fact 14 (f := .glo "is_text") rfl),
    cd.def_ 14 (d := dd_is_text) rfl,
    He.glo_ok X G (cd.fact 15 (f := .glo "fits") rfl),
    cd.def_ 15 (d := dd_fits) rfl,
    He.glo_ok X G (cd.fact 16 (f := .glo "is_field") rfl),
    cd.def_ 16 (d := dd_is_field) rfl,
    He.glo_ok X G (cd.fact 17 (f := .glo "check_rows") rfl),
    cd.def_ 17 (d := dd_check_rows) rfl,
    He.glo_ok X G (cd.fact 18 (f := .glo "by_name") rfl),
    cd.def_ 18 (d := dd_by_name) rfl,
    He.glo_ok X G (cd.fact 19 (f := .glo "check_given") rfl),
    cd.def_ 19 (d := dd_check_given) rfl,
    He.glo_ok X G (cd.fact 20 (f := .glo "some_value") rfl),
    cd.def_ 20 (d := dd_some_value) rfl,
    He.glo_ok X G (cd.fact 21 (f := .glo "is_pairs") rfl),
    cd.def_ 21 (d := dd_is_pairs) rfl,
    He.glo_ok X G (cd.fact 22 (f := .glo "is_rule") rfl),
    cd.def_ 22 (d := dd_is_rule) rfl,
    He.glo_ok X G (cd.fact 23 (f := .glo "way_by") rfl),
    cd.def_ 23 (d := dd_way_by) rfl,
    He.glo_ok X G (cd.fact 24 (f := .glo "ways_of") rfl),
    cd.def_ 24 (d := dd_ways_of) rfl,
    He.glo_ok X G (cd.fact 25 (f := .glo "ways_by") rfl),
    cd.def_ 25 (d := dd_ways_by) rfl,
    He.glo_ok X G (cd.fact 26 (f := .glo "free") rfl),
    cd.def_ 26 (d := dd_free) rfl,
    He.glo_ok X G (cd.fact 27 (f := .glo "counts") rfl),
    cd.def_ 27 (d := dd_counts) rfl,
    He.glo_ok X G (cd.fact 28 (f := .glo "made") rfl),
    cd.def_ 28 (d := dd_made) rfl,
    He.glo_ok X G (cd.fact 29 (f := .glo "known_makers") rfl),
    cd.def_ 29 (d := dd_known_makers) rfl,
    He.glo_ok X G (cd.fact 30 (f := .glo "known_others") rfl),
    cd.def_ 30 (d := dd_known_others) rfl,
    He.glo_ok X G (cd.fact 31 (f := .glo "_law_cell_at") rfl),
    cd.def_ 31 (d := dd__law_cell_at) rfl,
    He.glo_ok X G (cd.fact 32 (f := .glo "_law_source") rfl),
    cd.def_ 32 (d := dd__law_source) rfl,
    He.glo_ok X G (cd.fact 33 (f := .glo "_law_draw") rfl),
    cd.def_ 33 (d := dd__law_draw) rfl,
    He.glo_ok X G (cd.fact 34 (f := .glo "_law_pick") rfl),
    cd.def_ 34 (d := dd__law_pick) rfl,
    He.glo_ok X G (cd.fact 35 (f := .glo "_law_made") rfl),
    cd.def_ 35 (d := dd__law_made) rfl,
    He.glo_ok X G (cd.fact 36 (f := .glo "_law_counts") rfl),
    cd.def_ 36 (d := dd__law_counts) rfl,
    He.glo_ok X G (cd.fact 37 (f := .glo "_law_number") rfl),
    cd.def_ 37 (d := dd__law_number) rfl,
    He.glo_ok X G (cd.fact 38 (f := .glo "_law_word") rfl),
    cd.def_ 38 (d := dd__law_word) rfl,
    He.glo_ok X G (cd.fact 39 (f := .glo "_law_makers") rfl),
    cd.def_ 39 (d := dd__law_makers) rfl,
    He.glo_ok X G (cd.fact 40 (f := .glo "_law_others") rfl),
    cd.def_ 40 (d := dd__law_others) rfl,
    He.glo_ok X G (cd.fact 41 (f := .glo "_law_right") rfl),
    cd.def_ 41 (d := dd__law_right) rfl,
    He.glo_ok X G (cd.fact 42 (f := .glo "law") rfl),
    cd.def_ 42 (d := dd_law) rfl,
    cd.def_ 49 (d := dd_Way___init__) rfl,
    cd.def_ 50 (d := dd_Way_there) rfl,
    cd.def_ 51 (d := dd_Way_line) rfl,
    cd.def_ 52 (d := dd_Way_renamed) rfl,
    cd.def_ 53 (d := dd_Kinds___init__) rfl,
    cd.def_ 54 (d := dd_Kinds_check_kind) rfl,
    cd.def_ 55 (d := dd_Kinds_add) rfl,
    cd.def_ 56 (d := dd_Kinds_kinds) rfl,
    cd.def_ 57 (d := dd_Kinds_fields) rfl,
    cd.def_ 58 (d := dd_Kinds_status_fields) rfl,
    cd.def_ 59 (d := dd_Kinds_table_of) rfl,
    cd.def_ 60 (d := dd_Kinds_filled) rfl,
    cd.def_ 61 (d := dd_Kinds_filled_status) rfl,
    cd.def_ 62 (d := dd_Kinds_check_some) rfl,
    cd.def_ 63 (d := dd_Kinds_check) rfl,
    cd.def_ 64 (d := dd_Kinds_check_status) rfl,
    cd.def_ 65 (d := dd_Kinds_check_shape) rfl,
    cd.def_ 66 (d := dd_Kinds_shape) rfl,
    cd.def_ 67 (d := dd_Kinds_to_shape) rfl,
    cd.def_ 68 (d := dd_Kinds_from_shape) rfl,
    cd.def_ 69 (d := dd_Kinds_unlike) rfl,
    He.glo_ok X G (cd.fact 43 (f := .glo "PlaneError") rfl),
    He.glo_ok X G (cd.fact 44 (f := .glo "BadKind") rfl),
    He.glo_ok X G (cd.fact 45 (f := .glo "BadField") rfl),
    He.glo_ok X G (cd.fact 46 (f := .glo "BadShape") rfl),
    He.glo_ok X G (cd.fact 47 (f := .glo "BadRule") rfl),
    He.glo_ok X G (cd.fact 48 (f := .glo "Lossy") rfl),
    He.glo_ok X G (cd.fact 49 (f := .glo "Way") rfl),
    He.glo_ok X G (cd.fact 50 (f := .glo "Kinds") rfl),
    He.free_ok X G (cd.fact 51 (f := .free "len") rfl),
    He.free_ok X G (cd.fact 52 (f := .free "int") rfl),
    He.free_ok X G (cd.fact 53 (f := .free "bool") rfl),
    He.free_ok X G (cd.fact 54 (f := .free "str") rfl),
    He.free_ok X G (cd.fact 55 (f := .free "list") rfl),
    He.free_ok X G (cd.fact 56 (f := .free "tuple") rfl),
    He.free_ok X G (cd.fact 57 (f := .free "dict") rfl),
    He.free_ok X G (cd.fact 58 (f := .free "set") rfl),
    He.free_ok X G (cd.fact 59 (f := .free "range") rfl),
    He.free_ok X G (cd.fact 60 (f := .free "isinstance") rfl),
    He.free_ok X G (cd.fact 61 (f := .free "all") rfl),
    He.free_ok X G (cd.fact 62 (f := .free "sorted") rfl),
    He.free_ok X G (cd.fact 63 (f := .free "enumerate") rfl),
    He.free_ok X G (cd.fact 64 (f := .free "repr") rfl),
    He.free_ok X G (cd.fact 65 (f := .free "ValueError") rfl),
    He.str_ok X G (cd.fact 66 (f := .str "SMALL" "abcdefghijklmnopqrstuvwxyz") rfl),
    He.str_ok X G (cd.fact 67 (f := .str "DIGITS" "0123456789") rfl),
    He.int_ok X G (cd.fact 68 (f := .int "MOST_SIGNS_names" 10) rfl),
    He.int_ok X G (cd.fact 69 (f := .int "MOST_MADE" 22) rfl),
    He.int_ok X G (cd.fact 70 (f := .int "MOST_REQUIREMENTS" 8) rfl),
    He.int_ok X G (cd.fact 71 (f := .int "MOST_LETTERS" 24) rfl),
    He.int_ok X G (cd.fact 72 (f := .int "MOST_FIELDS" 16) rfl),
    He.int_ok X G (cd.fact 73 (f := .int "MOST_WORDS" 16) rfl),
    He.int_ok X G (cd.fact 74 (f := .int "MOST_SIGNS_fields" 400) rfl),
    He.int_ok X G (cd.fact 75 (f := .int "BOUND" 1000000000) rfl),
    He.str_ok X G (cd.fact 76 (f := .str "HUB" "hub") rfl),
    He.cls_ok (cd.fact 77 (f := .cls "Way") rfl),
    He.mkr_ok (cd.fact 78 (f := .mkr "Way") rfl),
    He.noat_ok (cd.fact 79 (f := .noat "Way" "of") rfl),
    He.noat_ok (cd.fact 80 (f := .noat "Way" "form") rfl),
    He.noat_ok (cd.fact 81 (f := .noat "Way" "factor") rfl),
    He.noat_ok (cd.fact 82 (f := .noat "Way" "more") rfl),
    He.noat_ok (cd.fact 83 (f := .noat "Way" "words") rfl),
    He.meth_ok (cd.fact 84 (f := .meth "Way" "there") rfl),
    He.meth_ok (cd.fact 85 (f := .meth "Way" "line") rfl),
    He.meth_ok (cd.fact 86 (f := .meth "Way" "renamed") rfl),
    He.cls_ok (cd.fact 87 (f := .cls "Kinds") rfl),
    He.mkr_ok (cd.fact 88 (f := .mkr "Kinds") rfl),
    He.noat_ok (cd.fact 89 (f := .noat "Kinds" "ways") rfl),
    He.noat_ok (cd.fact 90 (f := .noat "Kinds" "rows") rfl),
    He.meth_ok (cd.fact 91 (f := .meth "Kinds" "check_kind") rfl),
    He.meth_ok (cd.fact 92 (f := .meth "Kinds" "add") rfl),
    He.meth_ok (cd.fact 93 (f := .meth "Kinds" "kinds") rfl),
    He.meth_ok (cd.fact 94 (f := .meth "Kinds" "fields") rfl),
    He.meth_ok (cd.fact 95 (f := .meth "Kinds" "status_fields") rfl),
    He.meth_ok (cd.fact 96 (f := .meth "Kinds" "table_of") rfl),
    He.meth_ok (cd.fact 97 (f := .meth "Kinds" "filled") rfl),
    He.meth_ok (cd.fact 98 (f := .meth "Kinds" "filled_status") rfl),
    He.meth_ok (cd.fact 99 (f := .meth "Kinds" "check_some") rfl),
    He.meth_ok (cd.fact 100 (f := .meth "Kinds" "check") rfl),
    He.meth_ok (cd.fact 101 (f := .meth "Kinds" "check_status") rfl),
    He.meth_ok (cd.fact 102 (f := .meth "Kinds" "check_shape") rfl),
    He.meth_ok (cd.fact 103 (f := .meth "Kinds" "shape") rfl),
    He.meth_ok (cd.fact 104 (f := .meth "Kinds" "to_shape") rfl),
    He.meth_ok (cd.fact 105 (f := .meth "Kinds" "from_shape") rfl),
    He.meth_ok (cd.fact 106 (f := .meth "Kinds" "unlike") rfl),
    He.glo_ok X G (cd.fact 107 (f := .glo "HIGHEST") rfl),
    He.glo_ok X G (cd.fact 108 (f := .glo "NAME") rfl),
    He.glo_ok X G (cd.fact 109 (f := .glo "LABEL") rfl),
    He.glo_ok X G (cd.fact 110 (f := .glo "TEXT") rfl),
    He.glo_ok X G (cd.fact 111 (f := .glo "SELECTOR") rfl),
    He.glo_ok X G (cd.fact 112 (f := .glo "PHASES") rfl),
    He.glo_ok X G (cd.fact 113 (f := .glo "COUNT") rfl),
    He.glo_ok X G (cd.fact 114 (f := .glo "TWELVE") rfl),
    He.glo_ok X G (cd.fact 115 (f := .glo "AMOUNT") rfl),
    He.glo_ok X G (cd.fact 116 (f := .glo "TEMPLATE") rfl),
    He.glo_ok X G (cd.fact 117 (f := .glo "LONG") rfl),
    cd.def_ 43 (d := dd_PlaneError___init__) rfl,
    cd.def_ 44 (d := dd_BadKind___init__) rfl,
    cd.def_ 45 (d := dd_BadField___init__) rfl,
    cd.def_ 46 (d := dd_BadShape___init__) rfl,
    cd.def_ 47 (d := dd_BadRule___init__) rfl,
    cd.def_ 48 (d := dd_Lossy___init__) rfl,
    c.more,
    c.t.tab 0 rfl⟩
  obtain ⟨fd, F⟩ := T.d_law
  have e := hfa.symm.trans T.g_law
  cases e
  have b := FunD.bindsA (ps := ["_law_script"]) F fun _ _ _ _ _ _ us hl => match us, hl with | [_], _ => rfl
  exact ⟨fd, fun s v => b s [v] rfl, fun base _ _ tb => ok_lawE T F (tb _ (List.mem_singleton.mpr rfl))⟩
end Lk
open PySem PySem.W PySem.Calls PyProof.Rows
theorem PySem.Challenge.cw_controlplane_k08_known_kinds_holds : PySem.Challenge.rw_controlplane_k08_known_kinds.Holds := by
  w_on; o_law
  refine HandSHeadRun.head_any (r := OpenLaw.row PySem.Challenge.rw_controlplane_k08_known_kinds) (q := view (OpenLaw.row PySem.Challenge.rw_controlplane_k08_known_kinds).prog [79]) (H := Lk.hk) (ob := Lk.ob) (M := 6000) (loose := [("__name__" : PySem.Str), ("PlaneError" : PySem.Str), ("BadKind" : PySem.Str), ("BadField" : PySem.Str), ("BadShape" : PySem.Str), ("BadRule" : PySem.Str), ("Lossy" : PySem.Str), ("Way" : PySem.Str), ("Kinds" : PySem.Str), ("_wall" : PySem.Str), ("is_integer" : PySem.Str), ("is_user_name" : PySem.Str), ("number_of" : PySem.Str), ("part_of" : PySem.Str), ("apart" : PySem.Str), ("is_maker" : PySem.Str), ("is_name" : PySem.Str), ("is_label_value" : PySem.Str), ("requirement" : PySem.Str), ("rows_of" : PySem.Str), ("is_selector" : PySem.Str), ("is_bounded" : PySem.Str), ("is_sort" : PySem.Str), ("is_text" : PySem.Str), ("fits" : PySem.Str), ("is_field" : PySem.Str), ("check_rows" : PySem.Str), ("by_name" : PySem.Str), ("check_given" : PySem.Str), ("some_value" : PySem.Str), ("is_pairs" : PySem.Str), ("is_rule" : PySem.Str), ("way_by" : PySem.Str), ("ways_of" : PySem.Str), ("ways_by" : PySem.Str), ("free" : PySem.Str), ("counts" : PySem.Str), ("made" : PySem.Str), ("known_makers" : PySem.Str), ("known_others" : PySem.Str), ("_law_cell_at" : PySem.Str), ("_law_source" : PySem.Str), ("_law_draw" : PySem.Str), ("_law_pick" : PySem.Str), ("_law_made" : PySem.Str), ("_law_counts" : PySem.Str), ("_law_number" : PySem.Str), ("_law_word" : PySem.Str), ("_law_makers" : PySem.Str), ("_law_others" : PySem.Str), ("_law_right" : PySem.Str), ("SMALL" : PySem.Str), ("DIGITS" : PySem.Str), ("MOST_SIGNS_names" : PySem.Str), ("MOST_MADE" : PySem.Str), ("HIGHEST" : PySem.Str), ("MOST_REQUIREMENTS" : PySem.Str), ("MOST_LETTERS" : PySem.Str), ("MOST_FIELDS" : PySem.Str), ("MOST_WORDS" : PySem.Str), ("MOST_SIGNS_fields" : PySem.Str), ("BOUND" : PySem.Str), ("NAME" : PySem.Str), ("LABEL" : PySem.Str), ("TEXT" : PySem.Str), ("SELECTOR" : PySem.Str), ("HUB" : PySem.Str), ("PHASES" : PySem.Str), ("COUNT" : PySem.Str), ("TWELVE" : PySem.Str), ("AMOUNT" : PySem.Str), ("TEMPLATE" : PySem.Str), ("LONG" : PySem.Str)]) (d := HandSHeadRun.topDef (OpenLaw.row PySem.Challenge.rw_controlplane_k08_known_kinds).prog 79) (kwd := []) Lk.ob_eq
    (by kernel_rfl) (fun s => by kernel_rfl) Lk.run (by kernel_rfl) (by kernel_rfl) (by kernel_rfl) (by rfl) (by first | assumption | decide +kernel) (by decide +kernel) ⟨rfl, rfl, rfl, rfl, rfl, by decide +kernel⟩ ?hw ?hc
  case hw => w_witness2
  case hc =>
    refine Lk.walk_ofTG (l := PySem.Challenge.rw_controlplane_k08_known_kinds) (n := 63) (k := 21) (x := "_law_script") (CX := fun _ => L2.CX0) rfl (by decide) (by kernel_rfl) ⟨rfl, by decide, by decide⟩ ?F (fun _ _ _ _ _ z => z)
    intro w mg fa h Y G hmg0
    obtain ⟨K, KX, c⟩ := Y
    have hmg : mg ("law" : PySem.Str) = some (.ref fa) := by
      have e : (HandSHeadRun.topDef (OpenLaw.row PySem.Challenge.rw_controlplane_k08_known_kinds).prog 79).name = ("law" : PySem.Str) := by kernel_rfl
      rw [← e]
      exact hmg0
    obtain ⟨fd, hb, hF⟩ := Lk.facts (P := (PySem.Challenge.rw_controlplane_k08_known_kinds).prog) (w := w) KX G hmg c
    exact ⟨K, KX, fd, Lk.tf.map (He.cT K), Lk.sp_law K, fun p hp => (by obtain ⟨q, hq, rfl⟩ := List.mem_map.mp hp; exact c.empty q hq), fun p hp => (by obtain ⟨q, hq, rfl⟩ := List.mem_map.mp hp; exact c.out q hq), fun p hp => (by obtain ⟨q, hq, rfl⟩ := List.mem_map.mp hp; exact PySem.W.codeHd_of_K KX (c.hd q hq)), hb, fun H a ns hl _ ht hS => ⟨a, ns, rfl, hS, hl, (fun p hp => (by rw [List.mem_singleton.mp hp]; exact LamX.TabS.nil (ht _ (List.mem_singleton.mpr rfl)))), fun _ => rfl⟩, hF⟩
end
