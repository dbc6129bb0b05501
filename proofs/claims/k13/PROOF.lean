import PyProof.Rows.All
import Wide.All
import OpenK.AllK
import Wide.FinOn
import PySem.Challenge.RW_midtower_k13_middles_and_floors
import KE.SortData
import HandS.SortRule
import HandS.ForMost
import PyProof.ReprRoads
import PyProof.CallFns
import HandS.ExcInit
import HandS.IsInst
import HandS.Wide
import HandS.WideBits
import HandS.TupAny
import HandS.TupMul
import HandS.Deep
import HandS.SortInts
import HandS.TupLe
import HandS.ExcOwn
import HandS.ExcCtx
import HandS.Flow
import HandS.Records
import HandS.Zip
import HandS.Iter
import KE.GoesEnumKw
import KE.GoesNew
import HandS.NoneIn
import HandS.MakeKwOnly
import HandS.Style
import HandS.HeadEnd
import HandS.HeadHook2
import HandS.MakeKw
import PyProof.Rows.StrJoinMade
import HandS.Ends
import HandS.Head0
import HandS.Head1
import HandS.Head2
import HandS.HeadHook1
import KE.KStateDown
set_option Elab.async false
set_option linter.all false
set_option maxRecDepth 100000
set_option maxHeartbeats 8000000
/-! Mt0: a stable sort that the kernel runs. -/
namespace Mt
section
variable {α : Type}
def sins (le : α → α → Bool) (x : α) : List α → List α
  | [] => [x]
  | y :: ys => cond (le x y) (x :: y :: ys) (y :: sins le x ys)
def ssort (le : α → α → Bool) : List α → List α
  | [] => []
  | x :: xs => sins le x (ssort le xs)
theorem sins_perm (le : α → α → Bool) (x : α) : ∀ l, (sins le x l).Perm (x :: l)
  | [] => .refl _
  | y :: ys => by
    unfold sins
    cases le x y with
    | true => exact .refl _
    | false => exact ((sins_perm le x ys).cons y).trans (.swap x y ys)
theorem ssort_perm (le : α → α → Bool) : ∀ l, (ssort le l).Perm l
  | [] => .refl _
  | x :: xs => (sins_perm le x _).trans ((ssort_perm le xs).cons x)
variable {le : α → α → Bool}
theorem sins_srtd (tr : ∀ a b c, le a b = true → le b c = true → le a c = true) (to : ∀ a b, (le a b || le b a) = true) (x : α) : ∀ l, l.Pairwise (fun a b => le a b = true) → (sins le x l).Pairwise (fun a b => le a b = true)
  | [], _ => List.pairwise_singleton _ _
  | y :: ys, h => by
    obtain ⟨h1, h2⟩ := List.pairwise_cons.mp h
    unfold sins
    cases e : le x y with
    | true => exact List.pairwise_cons.mpr ⟨fun z hz => by
        rcases List.mem_cons.mp hz with rfl | hz
        · exact e
        · exact tr _ _ _ e (h1 z hz), h⟩
    | false =>
      have e2 : le y x = true := by have := to x y; rw [e] at this; exact this
      exact List.pairwise_cons.mpr ⟨fun z hz => by
        rcases List.mem_cons.mp ((sins_perm le x ys).mem_iff.mp hz) with rfl | hz
        · exact e2
        · exact h1 z hz, sins_srtd tr to x ys h2⟩
theorem ssort_srtd (tr : ∀ a b c, le a b = true → le b c = true → le a c = true) (to : ∀ a b, (le a b || le b a) = true) : ∀ l, (ssort le l).Pairwise (fun a b => le a b = true)
  | [] => .nil
  | x :: xs => sins_srtd tr to x _ (ssort_srtd tr to xs)
/-- as one asks of equal ones -/
def eq2 (le : α → α → Bool) (x y : α) : Bool := le x y && le y x
theorem sins_cls (tr : ∀ a b c, le a b = true → le b c = true → le a c = true) (z x : α) : ∀ l, (sins le x l).filter (eq2 le z) = (x :: l).filter (eq2 le z)
  | [] => rfl
  | y :: ys => by
    unfold sins
    cases e : le x y with
    | true => rfl
    | false =>
      show (y :: sins le x ys).filter _ = _
      rw [List.filter_cons, sins_cls tr z x ys, List.filter_cons, List.filter_cons, List.filter_cons]
      cases q1 : eq2 le z x with
      | false => rfl
      | true =>
        cases q2 : eq2 le z y with
        | false => rfl
        | true =>
          unfold eq2 at q1 q2
          simp only [Bool.and_eq_true] at q1 q2
          rw [tr _ _ _ q1.2 q2.1] at e
          cases e
theorem ssort_cls (tr : ∀ a b c, le a b = true → le b c = true → le a c = true) (z : α) : ∀ l, (ssort le l).filter (eq2 le z) = l.filter (eq2 le z)
  | [] => rfl
  | x :: xs => by
    show (sins le x _).filter _ = _
    rw [sins_cls tr, List.filter_cons, List.filter_cons, ssort_cls tr z xs]
theorem msort_cls (tr : ∀ a b c, le a b = true → le b c = true → le a c = true) (to : ∀ a b, (le a b || le b a) = true) (z : α) (l : List α) : (l.mergeSort le).filter (eq2 le z) = l.filter (eq2 le z) := by
  have pw : (l.filter (eq2 le z)).Pairwise (fun a b => le a b = true) := by
    refine List.Pairwise.imp_of_mem (R := fun _ _ => True) (fun {a b} ha hb _ => ?_) (List.pairwise_of_forall (fun _ _ => trivial))
    have h1 := (List.mem_filter.mp ha).2
    have h2 := (List.mem_filter.mp hb).2
    unfold eq2 at h1 h2
    simp only [Bool.and_eq_true] at h1 h2
    exact tr _ _ _ h1.2 h2.1
  have s1 := (List.sublist_mergeSort tr to pw List.filter_sublist).filter (eq2 le z)
  rw [List.filter_filter] at s1
  simp only [Bool.and_self] at s1
  exact (s1.eq_of_length ((List.mergeSort_perm l le).filter _).length_eq.symm).symm
theorem srt_uniq (to : ∀ a b, (le a b || le b a) = true) : ∀ {l m : List α}, l.Pairwise (fun a b => le a b = true) → m.Pairwise (fun a b => le a b = true) → l.Perm m → (∀ z, l.filter (eq2 le z) = m.filter (eq2 le z)) → l = m
  | [], m, _, _, h, _ => (List.Perm.eq_nil h.symm).symm
  | x :: l, [], _, _, h, _ => absurd h.length_eq (by simp)
  | x :: l, y :: m, hl, hm, h, c => by
    have refl : ∀ a, le a a = true := fun a => by have := to a a; rw [Bool.or_self] at this; exact this
    have h1 : le y x = true := by
      rcases List.mem_cons.mp (h.mem_iff.mp (List.mem_cons_self (a := x) (l := l))) with e | hx
      · rw [e]; exact refl y
      · exact (List.pairwise_cons.mp hm).1 x hx
    have h2 : le x y = true := by
      rcases List.mem_cons.mp (h.mem_iff.mpr (List.mem_cons_self (a := y) (l := m))) with e | hy
      · rw [e]; exact refl x
      · exact (List.pairwise_cons.mp hl).1 y hy
    have cx := c x
    rw [List.filter_cons_of_pos (by unfold eq2; rw [refl x]; rfl), List.filter_cons_of_pos (by unfold eq2; rw [h1, h2]; rfl)] at cx
    have e : x = y := (List.cons.inj cx).1
    subst e
    rw [srt_uniq to (List.pairwise_cons.mp hl).2 (List.pairwise_cons.mp hm).2 h.cons_inv fun z => by
      have cz := c z
      rw [List.filter_cons, List.filter_cons] at cz
      split at cz
      · exact (List.cons.inj cz).2
      · exact cz]
theorem ssort_eq (tr : ∀ a b c, le a b = true → le b c = true → le a c = true) (to : ∀ a b, (le a b || le b a) = true) (l : List α) : ssort le l = l.mergeSort le :=
  srt_uniq to (ssort_srtd tr to l) (List.pairwise_mergeSort tr to l) ((ssort_perm le l).trans (List.mergeSort_perm l le).symm) fun z => by rw [ssort_cls tr, msort_cls tr to]
end
theorem dataLe_tr {β : Type} (k : β → PySem.PyData) (a b c : β) (h1 : PySem.W.dataLe false k a b = true) (h2 : PySem.W.dataLe false k b c = true) : PySem.W.dataLe false k a c = true := by
  let O := PyProof.Rows.listOrd PyProof.Rows.itemOrd
  have e : ∀ x y, PySem.W.dataLe false k x y = !O.blt (PySem.W.keyToks (k y)) (PySem.W.keyToks (k x)) := fun _ _ => rfl
  rw [e, Bool.not_eq_true'] at h1 h2 ⊢
  cases q : O.blt (PySem.W.keyToks (k c)) (PySem.W.keyToks (k a)) with
  | false => rfl
  | true =>
    rcases O.negTrans _ (PySem.W.keyToks (k b)) _ q with h | h
    · rw [h] at h2; exact h2
    · rw [h] at h1; exact h1
theorem dataLe_to {β : Type} (k : β → PySem.PyData) (a b : β) : (PySem.W.dataLe false k a b || PySem.W.dataLe false k b a) = true := by
  let O := PyProof.Rows.listOrd PyProof.Rows.itemOrd
  have e : ∀ x y, PySem.W.dataLe false k x y = !O.blt (PySem.W.keyToks (k y)) (PySem.W.keyToks (k x)) := fun _ _ => rfl
  rw [e, e]
  cases q : O.blt (PySem.W.keyToks (k b)) (PySem.W.keyToks (k a)) with
  | false => rfl
  | true =>
    cases p : O.blt (PySem.W.keyToks (k a)) (PySem.W.keyToks (k b)) with
    | false => rfl
    | true =>
      have := O.trans _ _ _ p q
      rw [O.irrefl] at this
      cases this
end Mt

set_option maxHeartbeats 8000000
/-! Mt1: values as trees, a small store, the core syntax and its meaning. -/
namespace Mt
open PySem

/-- a value as a tree; lst, dic, obj here are such that nothing changes them any more; ref: an object of the store -/
inductive T where
  | non | bl (b : Bool) | int (i : Int) | str (x : Str) | byt (b : Array UInt8)
  | tup (xs : List T) | lst (xs : List T) | dic (ks vs : List T) | obj (c : Nat) (fs : List Nat) (vs : List T)
  | ref (n : Nat) | scr (ns : List Int)
  deriving Inhabited

/-- what stands in the store -/
inductive O where
  | lst (xs : List T) | dic (ks vs : List T) | ins (c : Nat) (fs : List Nat) (vs : List T)
  deriving Inhabited
abbrev Sto := List O
inductive R (α : Type) where
  | ok (a : α) (h : Sto) | ex (x : T) (h : Sto) | no
def M (α : Type) : Type := Sto → R α
def ret {α : Type} (a : α) : M α := fun h => .ok a h
def no {α : Type} : M α := fun _ => .no
def bnd {α β : Type} (m : M α) (f : α → M β) : M β := fun h => match m h with
  | .ok a h' => f a h'
  | .ex x h' => .ex x h'
  | .no => .no
def ofO {α : Type} : Option α → M α
  | some a => ret a
  | none => no
section
variable {α β γ : Type}
@[simp] theorem bnd_ret (a : α) (f : α → M β) : bnd (ret a) f = f a := rfl
@[simp] theorem bnd_no (f : α → M β) : bnd (no : M α) f = no := rfl
@[simp] theorem bnd_id (m : M α) : bnd m ret = m := by
  funext h; unfold bnd; cases m h <;> rfl
theorem bnd_assoc (m : M α) (f : α → M β) (g : β → M γ) : bnd (bnd m f) g = bnd m fun a => bnd (f a) g := by
  funext h; unfold bnd; cases m h <;> rfl
@[simp] theorem ofO_some (a : α) : ofO (some a) = ret a := rfl
@[simp] theorem ofO_none : ofO (none : Option α) = no := rfl
theorem bnd_ite (c : Prop) [Decidable c] (m n : M α) (f : α → M β) : bnd (if c then m else n) f = if c then bnd m f else bnd n f := by
  split <;> rfl
end
def newO (o : O) : M T := fun h => .ok (.ref h.length) (h ++ [o])
def getO (n : Nat) : M O := fun h => match h[n]? with
  | some o => .ok o h
  | none => .no
theorem bnd_getO {α : Type} {n : Nat} {h : Sto} {u : O} {f : O → M α} (w : h[n]? = some u) : bnd (getO n) f h = f u h := by
  unfold bnd getO
  rw [w]
def setO (n : Nat) (o : O) : M Unit := fun h => if n < h.length then .ok () (h.set n o) else .no
/-- a new list, of the store or frozen at once -/
def mkL (m : Bool) (xs : List T) : M T := if m then newO (.lst xs) else ret (.lst xs)

/-! ### data -/
mutual
def T.beq : T → T → Bool
  | .non, .non => true
  | .bl a, .bl b => decide (a = b)
  | .int a, .int b => decide (a = b)
  | .str a, .str b => decide (a = b)
  | .byt a, .byt b => decide (a = b)
  | .tup a, .tup b => T.beqs a b
  | .lst a, .lst b => T.beqs a b
  | .dic a a', .dic b b' => T.beqs a b && T.beqs a' b'
  | .obj c f v, .obj d g w => decide (c = d) && decide (f = g) && T.beqs v w
  | .ref a, .ref b => decide (a = b)
  | .scr a, .scr b => decide (a = b)
  | _, _ => false
def T.beqs : List T → List T → Bool
  | [], [] => true
  | x :: xs, y :: ys => T.beq x y && T.beqs xs ys
  | _, _ => false
end
mutual
theorem T.beq_eq : ∀ {a b : T}, T.beq a b = true → a = b := fun {a b} h => by
  cases a <;> cases b <;> simp only [T.beq, Bool.false_eq_true, decide_eq_true_eq, Bool.and_eq_true] at h
  case non.non => rfl
  case bl.bl => rw [h]
  case int.int => rw [h]
  case str.str => rw [h]
  case byt.byt => rw [h]
  case tup.tup => rw [T.beqs_eq h]
  case lst.lst => rw [T.beqs_eq h]
  case dic.dic => rw [T.beqs_eq h.1, T.beqs_eq h.2]
  case obj.obj => rw [h.1.1, h.1.2, T.beqs_eq h.2]
  case ref.ref => rw [h]
  case scr.scr => rw [h]
theorem T.beqs_eq : ∀ {xs ys : List T}, T.beqs xs ys = true → xs = ys := fun {xs ys} h => by
  cases xs with
  | nil => cases ys with
    | nil => rfl
    | cons y ys => simp [T.beqs] at h
  | cons x xs => cases ys with
    | nil => simp [T.beqs] at h
    | cons y ys =>
      simp only [T.beqs, Bool.and_eq_true] at h
      rw [T.beq_eq h.1, T.beqs_eq h.2]
end
mutual
theorem T.beq_refl : ∀ a : T, T.beq a a = true := fun a => by
  cases a <;> simp only [T.beq, decide_true, Bool.and_self, Bool.true_and]
  case tup xs => exact T.beqs_refl xs
  case lst xs => exact T.beqs_refl xs
  case dic ks vs => rw [T.beqs_refl ks, T.beqs_refl vs]; rfl
  case obj c fs vs => exact T.beqs_refl vs
theorem T.beqs_refl : ∀ xs : List T, T.beqs xs xs = true := fun xs => by
  cases xs with
  | nil => rfl
  | cons x xs => simp only [T.beqs, T.beq_refl x, T.beqs_refl xs, Bool.and_self]
end
mutual
def T.py : T → Option PyData
  | .non => some .none
  | .bl b => some (.bool b)
  | .int i => some (.int i)
  | .str x => some (.str x)
  | .tup xs => (T.pys xs).map .tuple
  | .lst xs => (T.pys xs).map .list
  | .byt _ => none
  | .dic _ _ => none
  | .obj _ _ _ => none
  | .ref _ => none
  | .scr _ => none
def T.pys : List T → Option (List PyData)
  | [] => some []
  | x :: xs => match T.py x, T.pys xs with
    | some d, some ds => some (d :: ds)
    | _, _ => none
end
/-- == of data -/
def eqT (a b : T) : Option Bool := match a.py, b.py with
  | some d, some e => if SeqAt.shaped d && SeqAt.shaped e then some (PyData.eqv d e) else none
  | _, _ => none

/-! ### core syntax -/
inductive Ty where
  | int | bool | str | tup | lst | byt | dct | cls (c : Nat)
  deriving DecidableEq, Repr
inductive Prim where
  | len | tuple | list | sorted | min2 | max2 | sum | all | any | int | str | repr | abs | divmod | minL | maxL | dict | set | bool | bytes
  deriving DecidableEq, Repr
inductive Op where
  | add | sub | mul | fdiv | mod | pow
  deriving DecidableEq, Repr
inductive Cm where
  | eq | ne | lt | le | gt | ge | is | isn | in_ | nin
  deriving DecidableEq, Repr
inductive Bm where
  | append | extend | pop
  deriving DecidableEq, Repr

/-- expressions, targets, what is walked -/
inductive C (F : Type) where
  | var (i : Nat) | con (t : T) | glob (g : Nat)
  | bin (op : Op) (m : Bool) (a b : C F) | neg (a : C F) | not (a : C F)
  | and (a b : C F) | or (a b : C F) | ite (c a b : C F)
  | cmp (op : Cm) (a b : C F) | cmp2 (op op' : Cm) (a b c : C F) | cmp3 (op op' op'' : Cm) (a b c d : C F)
  | eqo (m : Nat) (a b : C F)
  | tup (es : List (C F)) | lst (m : Bool) (es : List (C F))
  | idx (a i : C F) | slc (m : Bool) (a : C F) (lo hi : Option (C F))
  | fld (a : C F) (f : Nat)
  | call (f : F) (es : List (C F)) (ks : List Nat) (kes : List (C F))
  | make (c : Nat) (es : List (C F)) (ks : List Nat) (kes : List (C F))
  | meth (o : C F) (m : Nat) (es : List (C F)) (ks : List Nat) (kes : List (C F))
  | prim (p : Prim) (m : Bool) (es : List (C F)) | isi (a : C F) (t : Ty)
  | bm (p : Bm) (o : C F) (es : List (C F))
  | lc (m : Bool) (tg it : C F) (ifs : List (C F)) (elt : C F) (own : List Nat)
  | lc2 (m : Bool) (tg it : C F) (ifs : List (C F)) (tg' it' : C F) (ifs' : List (C F)) (elt : C F) (own own' : List Nat)
  -- targets
  | tName (i : Nat) | tTup (ts : List (C F)) | tSub (o i : C F) | tFld (o : C F) (f : Nat)
  -- what is walked
  | iSeq (a : C F) | iRng (a b : C F) | iEnum (k : Int) (a : C F) | iZip (a b : C F)
inductive S (F : Type) where
  | expr (e : C F) | asg (tg e : C F) | aug (i : Nat) (op : Op) (e : C F) | ret (e : C F) | iff (c : C F) (a b : List (S F))
  | whl (c : C F) (b : List (S F)) | for_ (tg it : C F) (b : List (S F)) | rai | pass
inductive Mode where
  | pure | shared | keep
  deriving DecidableEq, Repr
structure Fn (F : Type) where
  arity : Nat
  nloc : Nat
  mode : Mode
  body : List (S F)
structure Prog (F : Type) where
  fn : F → Fn F
  /-- how arguments come to parameters where not one by one: by the written ones' places, or a default -/
  plan : F → Nat → List Nat → Option (List (Nat ⊕ T))
  meth : Nat → Nat → Option F
  glob : Nat → Option T
  init : Nat → Option F
  frozen : Nat → Bool

/-! ### operations by values -/
def addT (m : Bool) : T → T → M T
  | .int i, .int j => ret (.int (i + j))
  | .str x, .str y => if x.length + y.length ≤ sizeLine then ret (.str (x ++ y)) else no
  | .tup xs, .tup ys => if xs.length + ys.length ≤ sizeLine then ret (.tup (xs ++ ys)) else no
  | .lst xs, .lst ys => if xs.length + ys.length ≤ sizeLine then mkL m (xs ++ ys) else no
  | _, _ => no
def rng64 (i : Int) : Bool := decide (-(2 ^ 64) < i) && decide (i < 2 ^ 64)
def mulT (m : Bool) : T → T → M T
  | .int i, .int j => if rng64 i || rng64 j then ret (.int (i * j)) else no
  | .lst xs, .int k => if xs.length * k.toNat ≤ 1000 ∧ -1000 ≤ k ∧ k ≤ 1000 then mkL m (List.replicate k.toNat xs).flatten else no
  | _, _ => no
def opT (m : Bool) : Op → T → T → M T
  | .add, a, b => addT m a b
  | .sub, .int i, .int j => ret (.int (i - j))
  | .mul, a, b => mulT m a b
  | .fdiv, .int i, .int j => if 0 < j ∧ j < 2 ^ 256 then ret (.int (i / j)) else no
  | .mod, .int i, .int j => if 0 < j then ret (.int (i % j)) else no
  | .pow, .int i, .int j => if 0 ≤ j ∧ j ≤ 1000000 ∧ i.natAbs < 2 ^ 64 then ret (.int (i ^ j.toNat)) else no
  | _, _, _ => no
def negT : T → M T
  | .int i => ret (.int (-i))
  | _ => no
/-- truth -/
def truT : T → M Bool
  | .non => ret false
  | .bl b => ret b
  | .int i => ret (i != 0)
  | .str x => if x.length ≤ sizeLine then ret (x.length != 0) else no
  | .tup xs => ret (!xs.isEmpty)
  | .lst xs => ret (!xs.isEmpty)
  | _ => no
/-- tuples of ints, compared -/
def ltIs : List Int → List Int → Bool
  | [], [] => false
  | [], _ :: _ => true
  | _ :: _, [] => false
  | x :: xs, y :: ys => if x = y then ltIs xs ys else decide (x < y)
def intsT : List T → Option (List Int)
  | [] => some []
  | .int i :: r => (intsT r).map (i :: ·)
  | _ :: _ => none
def isNoneB : T → Option Bool
  | .ref _ => some false
  | .obj _ _ _ => some false
  | .non => some true
  | _ => some false
def isT : T → T → Option Bool
  | a, .non => isNoneB a
  | .bl a, .bl b => some (decide (a = b))
  | _, _ => none
def inT (x : T) : T → Option Bool
  | .tup ys => match x.py, T.pys ys with
    | some d, some ds => if SeqAt.shaped d && SeqAt.shaped (.tuple ds) then some (ds.any fun z => PyData.eqv z d) else none
    | _, _ => none
  | .lst ys => match x.py, T.pys ys with
    | some d, some ds => if SeqAt.shaped d && SeqAt.shaped (.list ds) then some (ds.any fun z => PyData.eqv z d) else none
    | _, _ => none
  | _ => none
def cmpT : Cm → T → T → Option Bool
  | .eq, a, b => eqT a b
  | .ne, a, b => (eqT a b).map (!·)
  | .lt, .int i, .int j => some (decide (i < j))
  | .le, .int i, .int j => some (decide (i ≤ j))
  | .gt, .int i, .int j => some (decide (j < i))
  | .ge, .int i, .int j => some (decide (j ≤ i))
  | .is, a, b => isT a b
  | .isn, a, b => (isT a b).map (!·)
  | .in_, a, b => inT a b
  | .nin, a, b => (inT a b).map (!·)
  | _, _, _ => none
def atT (xs : List T) (i : Int) : M T := ofO (L2.atI xs i)
def idxT : T → T → M T
  | .tup xs, .int i => atT xs i
  | .lst xs, .int i => atT xs i
  | .scr ns, .int i => bnd (ofO (L2.atI ns i)) fun k => ret (.int k)
  | .ref n, .int i => bnd (getO n) fun
    | .lst xs => atT xs i
    | _ => no
  | _, _ => no
/-- a slice -/
def cut {α : Type} (xs : List α) (lo hi : Option Int) : List α := (xs.drop (HT.sIx xs.length 0 lo)).take (HT.sIx xs.length xs.length hi - HT.sIx xs.length 0 lo)
def slcT (m : Bool) (lo hi : Option Int) : T → M T
  | .tup xs => ret (.tup (cut xs lo hi))
  | .lst xs => mkL m (cut xs lo hi)
  | .scr ns => mkL m ((cut ns lo hi).map .int)
  | .ref n => bnd (getO n) fun
    | .lst xs => mkL m (cut xs lo hi)
    | _ => no
  | _ => no
def fldV (f : Nat) : List Nat → List T → Option T
  | g :: gs, v :: vs => if f = g then some v else fldV f gs vs
  | _, _ => none
def fldT (f : Nat) : T → M T
  | .obj _ fs vs => ofO (fldV f fs vs)
  | .ref n => bnd (getO n) fun
    | .ins _ fs vs => ofO (fldV f fs vs)
    | _ => no
  | _ => no
/-- the items of a list, a tuple, as they stand -/
def itemsT : T → M (List T)
  | .tup xs => ret xs
  | .scr ns => ret (ns.map .int)
  | .lst xs => ret xs
  | .ref n => bnd (getO n) fun
    | .lst xs => ret xs
    | _ => no
  | _ => no
/-- the items of a list -/
def listT : T → M (List T)
  | .tup _ => no
  | t => itemsT t
/-- that a list of the store is still so -/
def stillT (xs : List T) : T → M Unit
  | .ref n => bnd (getO n) fun
    | .lst ys => if T.beqs ys xs then ret () else no
    | _ => no
  | _ => ret ()
/-- a field is put -/
def putV (f : Nat) (v : T) : List Nat → List T → List Nat × List T
  | g :: gs, w :: ws => if g = f then (g :: gs, v :: ws) else (g :: (putV f v gs ws).1, w :: (putV f v gs ws).2)
  | _, _ => ([f], [v])
/-- a value's class -/
inductive Kd where
  | non | bool | int | str | tup | lst | dct | byt | own (c : Nat)
  deriving DecidableEq, Repr
def kdT : T → M Kd
  | .non => ret .non
  | .bl _ => ret .bool
  | .int _ => ret .int
  | .str _ => ret .str
  | .byt _ => ret .byt
  | .tup _ => ret .tup
  | .lst _ => ret .lst
  | .scr _ => ret .lst
  | .dic _ _ => ret .dct
  | .obj c _ _ => ret (.own c)
  | .ref n => bnd (getO n) fun
    | .lst _ => ret .lst
    | .dic _ _ => ret .dct
    | .ins c _ _ => ret (.own c)
def kdTy : Kd → Ty → Bool
  | .bool, .int => true
  | .bool, .bool => true
  | .int, .int => true
  | .str, .str => true
  | .tup, .tup => true
  | .lst, .lst => true
  | .dct, .dct => true
  | .byt, .byt => true
  | .own c, .cls d => decide (c = d)
  | _, _ => false
def isiM (t : Ty) (x : T) : M T := bnd (kdT x) fun k => ret (.bl (kdTy k t))
def isort : List Int → List Int := ssort fun a b => decide (a ≤ b)
def pyD (t : T) : PyData := t.py.getD .none
/-- such as sorted takes -/
def sortOk (xs : List T) : Bool := (xs.all fun x => x.py.isSome && decide ((pyD x).depth ≤ 60)) && ((xs.all fun x => xs.all fun y => PySem.W.alike (pyD x) (pyD y)) && ((xs.all fun x => match pyD x with
  | .tuple (_ :: _) => true
  | _ => false) || xs.all fun x => match pyD x with
  | .none => false
  | .tuple _ => false
  | _ => true))
def tsort : List T → List T := ssort (PySem.W.dataLe false pyD)
def sortT (m : Bool) (xs : List T) : M T := match intsT xs with
  | some is => mkL m ((isort is).map .int)
  | none => if sortOk xs then mkL m (tsort xs) else no
def blsT : List T → Option (List Bool)
  | [] => some []
  | .bl b :: r => (blsT r).map (b :: ·)
  | _ :: _ => none
def lenT : T → M Nat
  | .tup xs => ret xs.length
  | .lst xs => ret xs.length
  | .scr xs => ret xs.length
  | .str x => if x.length ≤ sizeLine then ret x.length else no
  | .ref n => bnd (getO n) fun
    | .lst xs => ret xs.length
    | _ => no
  | _ => no
/-- repr -/
def reprT (x : T) : M T := match x.py with
  | some d => if d.showable && (!d.hasDict && (SeqAt.shaped d && decide (d.shown.length ≤ sizeLine))) then ret (.str d.shown) else no
  | none => no
def primT (p : Prim) (m : Bool) (vs : List T) : M T := match p, vs with
  | .len, [x] => bnd (lenT x) fun n => ret (.int n)
  | .tuple, [x] => bnd (itemsT x) fun xs => ret (.tup xs)
  | .list, [x] => bnd (itemsT x) fun xs => mkL m xs
  | .sorted, [x] => bnd (listT x) (sortT m)
  | .min2, [.int i, .int j] => ret (.int (if j < i then j else i))
  | .max2, [.int i, .int j] => ret (.int (if j > i then j else i))
  | .sum, [x] => bnd (listT x) fun xs => bnd (ofO (intsT xs)) fun is => ret (.int is.sum)
  | .all, [x] => bnd (listT x) fun xs => bnd (ofO (blsT xs)) fun bs => ret (.bl (bs.all id))
  | .any, [x] => bnd (listT x) fun xs => bnd (ofO (blsT xs)) fun bs => ret (.bl (bs.any id))
  | .int, [.int i] => ret (.int i)
  | .int, [.bl b] => ret (.int (if b then 1 else 0))
  | .repr, [x] => reprT x
  | .abs, [.int i] => ret (.int (if i < 0 then -i else i))
  | .divmod, [.int i, .int j] => if 0 < j ∧ j < 2 ^ 256 then ret (.tup [.int (i / j), .int (i % j)]) else no
  | _, _ => no
/-- what the method is of -/
def bmC : Bm → T → M Unit
  | _, .ref n => bnd (getO n) fun
    | .lst _ => ret ()
    | _ => no
  | _, _ => no
def bmT : Bm → T → List T → M T
  | .append, .ref n, [x] => bnd (getO n) fun
    | .lst xs => if xs.length < sizeLine then bnd (setO n (.lst (xs ++ [x]))) fun _ => ret .non else no
    | _ => no
  | .extend, .ref n, [.lst ys] => bnd (getO n) fun
    | .lst xs => if xs.length + ys.length ≤ sizeLine then bnd (setO n (.lst (xs ++ ys))) fun _ => ret .non else no
    | _ => no
  | .pop, .ref n, [] => bnd (getO n) fun
    | .lst xs => match xs.getLast? with
      | some y => bnd (setO n (.lst xs.dropLast)) fun _ => ret y
      | none => no
    | _ => no
  | _, _, _ => no

/-! ### meaning -/
abbrev Env := List (Option T)
inductive Fl where
  | nx | rt (v : T)
def wipe (σ : Env) : List Nat → Env
  | [] => σ
  | v :: vs => (wipe σ vs).set v none
/-- no exception may leave it -/
def nox {α : Type} (m : M α) : M α := fun h => match m h with
  | .ok a h' => .ok a h'
  | _ => .no
def compL (g : M Unit) (f : T → M (Option T)) : List T → M (List T)
  | [] => bnd g fun _ => ret []
  | x :: xs => bnd g fun _ => bnd (f x) fun
    | some y => bnd (compL g f xs) fun ys => ret (y :: ys)
    | none => compL g f xs
def compL2 (g : M Unit) (f : T → M (List T)) : List T → M (List T)
  | [] => bnd g fun _ => ret []
  | x :: xs => bnd g fun _ => bnd (f x) fun ys => bnd (compL2 g f xs) fun zs => ret (ys ++ zs)
def forL (g : M Unit) (f : T → Env → M (Fl × Env)) : List T → Env → M (Fl × Env)
  | [], σ => bnd g fun _ => ret (.nx, σ)
  | x :: xs, σ => bnd g fun _ => bnd (f x σ) fun r => match r.1 with
    | .nx => forL g f xs r.2
    | .rt v => ret (.rt v, r.2)
def whlL (c : Env → M Bool) (f : Env → M (Fl × Env)) : Nat → Env → M (Fl × Env)
  | 0, _ => no
  | n + 1, σ => bnd (c σ) fun b => if b then bnd (f σ) fun r => match r.1 with
    | .nx => whlL c f n r.2
    | .rt v => ret (.rt v, r.2) else ret (.nx, σ)
/-- of no heap -/
def T.cst : T → Bool
  | .non => true
  | .bl _ => true
  | .int _ => true
  | .str _ => true
  | _ => false
def planT (vs : List T) : List (Nat ⊕ T) → Option (List T)
  | [] => some []
  | p :: ps => match (match p with
      | .inl i => vs[i]?
      | .inr t => if t.cst then some t else none), planT vs ps with
    | some x, some xs => some (x :: xs)
    | _, _ => none
def bindA {F : Type} (P : Prog F) (f : F) (n : Nat) (ks : List Nat) (vs : List T) : M (List T) :=
  match P.plan f n ks with
  | some pl => ofO (planT vs pl)
  | none => if ks.isEmpty && n == (P.fn f).arity then ret vs else no
def clsT : T → M Nat
  | .obj c _ _ => ret c
  | .ref n => bnd (getO n) fun
    | .ins c _ _ => ret c
    | _ => no
  | _ => no
/-- == of two instances of one class, by its own def -/
def eqoT {F : Type} (P : Prog F) (G : F → List T → M T) (m : Nat) (x y : T) : M T := bnd (clsT x) fun c => bnd (clsT y) fun d => if d = c then bnd (ofO (P.meth c m)) fun f => bnd (bindA P f 2 [] [x, y]) (G f) else no
/-- so many turns a while may have -/
def turns : Nat := 1000000
section
variable {F : Type} (P : Prog F) (G : F → List T → M T) (mk : Nat → Nat → List Nat → List T → M T)
mutual
def ev : C F → Env → M T
  | .var i, σ => ofO (σ[i]?.bind id)
  | .con t, _ => ret t
  | .glob g, _ => ofO (P.glob g)
  | .bin op m a b, σ => bnd (ev a σ) fun x => bnd (ev b σ) fun y => opT m op x y
  | .neg a, σ => bnd (ev a σ) negT
  | .not a, σ => bnd (ev a σ) fun x => bnd (truT x) fun b => ret (.bl (!b))
  | .and a b, σ => bnd (ev a σ) fun x => bnd (truT x) fun t => if t then ev b σ else ret x
  | .or a b, σ => bnd (ev a σ) fun x => bnd (truT x) fun t => if t then ret x else ev b σ
  | .ite c a b, σ => bnd (bnd (ev c σ) truT) fun t => if t then ev a σ else ev b σ
  | .cmp op a b, σ => bnd (ev a σ) fun x => bnd (ev b σ) fun y => bnd (ofO (cmpT op x y)) fun b => ret (.bl b)
  | .cmp2 op op' a b c, σ => bnd (ev a σ) fun x => bnd (ev b σ) fun y => bnd (ofO (cmpT op x y)) fun t =>
      if t then bnd (ev c σ) fun z => bnd (ofO (cmpT op' y z)) fun u => ret (.bl u) else ret (.bl false)
  | .cmp3 op op' op'' a b c d, σ => bnd (ev a σ) fun x => bnd (ev b σ) fun y => bnd (ofO (cmpT op x y)) fun t =>
      if t then bnd (ev c σ) fun z => bnd (ofO (cmpT op' y z)) fun u => if u then bnd (ev d σ) fun w => bnd (ofO (cmpT op'' z w)) fun r => ret (.bl r) else ret (.bl false) else ret (.bl false)
  | .eqo m a b, σ => bnd (ev a σ) fun x => bnd (ev b σ) fun y => eqoT P G m x y
  | .tup es, σ => bnd (evs es σ) fun xs => if xs.length ≤ sizeLine then ret (.tup xs) else no
  | .lst m es, σ => bnd (evs es σ) fun xs => if xs.length ≤ sizeLine then mkL m xs else no
  | .idx a i, σ => bnd (ev a σ) fun x => bnd (ev i σ) fun y => idxT x y
  | .slc m a lo hi, σ => bnd (ev a σ) fun x => bnd (evO lo σ) fun l => bnd (evO hi σ) fun h => slcT m l h x
  | .fld a f, σ => bnd (ev a σ) (fldT f)
  | .call f es ks kes, σ => bnd (evs es σ) fun vs => bnd (evs kes σ) fun ws => bnd (bindA P f es.length ks (vs ++ ws)) (G f)
  | .make c es ks kes, σ => bnd (evs es σ) fun vs => bnd (evs kes σ) fun ws => mk c (es.length + 1) ks (vs ++ ws)
  | .meth o m es ks kes, σ => bnd (ev o σ) fun x => bnd (clsT x) fun c => bnd (ofO (P.meth c m)) fun f => bnd (evs es σ) fun vs => bnd (evs kes σ) fun ws =>
      bnd (bindA P f (es.length + 1) ks (x :: (vs ++ ws))) (G f)
  | .prim p m es, σ => bnd (evs es σ) (primT p m)
  | .isi a t, σ => bnd (ev a σ) (isiM t)
  | .bm p o es, σ => bnd (ev o σ) fun x => bnd (bmC p x) fun _ => bnd (evs es σ) fun vs => bmT p x vs
  | .lc m tg it ifs elt own, σ => bnd (iter it σ) fun r => nox (bnd (compL r.2 (fun x => bnd (asg tg x (wipe σ own)) fun σ' => bnd (evIf ifs σ') fun t =>
      if t then bnd (ev elt σ') fun y => ret (some y) else ret none) r.1) fun ys => if ys.length ≤ sizeLine then mkL m ys else no)
  | .lc2 m tg it ifs tg' it' ifs' elt own own', σ => bnd (iter it σ) fun r => nox (bnd (compL2 r.2 (fun x => bnd (asg tg x (wipe σ own)) fun σ' => bnd (evIf ifs σ') fun t =>
      if t then bnd (iter it' σ') fun r' => compL r'.2 (fun x' => bnd (asg tg' x' (wipe σ' own')) fun σ'' => bnd (evIf ifs' σ'') fun t' =>
        if t' then bnd (ev elt σ'') fun y => ret (some y) else ret none) r'.1 else ret []) r.1) fun ys => if ys.length ≤ sizeLine then mkL m ys else no)
  | .tName _, _ | .tTup _, _ | .tSub _ _, _ | .tFld _ _, _ | .iSeq _, _ | .iRng _ _, _ | .iEnum _ _, _ | .iZip _ _, _ => no
def evs : List (C F) → Env → M (List T)
  | [], _ => ret []
  | e :: es, σ => bnd (ev e σ) fun x => bnd (evs es σ) fun xs => ret (x :: xs)
def evO : Option (C F) → Env → M (Option Int)
  | none, _ => ret none
  | some e, σ => bnd (ev e σ) fun
    | .int i => ret (some i)
    | _ => no
def evIf : List (C F) → Env → M Bool
  | [], _ => ret true
  | [c], σ => bnd (ev c σ) truT
  | _, _ => no
/-- what is walked: its items, and that it is still so -/
def iter : C F → Env → M (List T × M Unit)
  | .iRng a b, σ => bnd (ev a σ) fun x => bnd (ev b σ) fun y => match x, y with
    | .int i, .int j => if -(2 ^ 62) ≤ i ∧ i < 2 ^ 62 ∧ -(2 ^ 62) ≤ j ∧ j < 2 ^ 62 then ret ((List.range (j - i).toNat).map fun (k : Nat) => .int (i + k), ret ()) else no
    | _, _ => no
  | .iEnum k a, σ => bnd (ev a σ) fun x => bnd (itemsT x) fun xs => ret (xs.zipIdx.map fun p => .tup [.int (k + (p.2 : Nat)), p.1], stillT xs x)
  | .iZip a b, σ => bnd (ev a σ) fun x => bnd (ev b σ) fun y => bnd (itemsT x) fun xs => bnd (itemsT y) fun ys =>
      ret ((xs.zip ys).map fun p => .tup [p.1, p.2], bnd (stillT xs x) fun _ => stillT ys y)
  | .iSeq a, σ => bnd (ev a σ) fun x => bnd (itemsT x) fun xs => ret (xs, stillT xs x)
  | _, _ => no
def asg : C F → T → Env → M Env
  | .tName i, v, σ => if i < σ.length then ret (σ.set i (some v)) else no
  | .tTup ts, v, σ => match v with
    | .tup xs => if ts.length = xs.length then asgs ts xs σ else no
    | v => bnd (listT v) fun xs => if ts.length = xs.length then asgs ts xs σ else no
  | .tSub o i, v, σ => bnd (ev o σ) fun x => bnd (ev i σ) fun y => match x, y with
    | .ref n, .int k => bnd (getO n) fun
      | .lst xs => bnd (ofO (L2.ixN xs.length k)) fun j => bnd (setO n (.lst (xs.set j v))) fun _ => ret σ
      | _ => no
    | _, _ => no
  | .tFld o f, v, σ => bnd (ev o σ) fun
    | .ref n => bnd (getO n) fun
      | .ins c fs vs => if fs.length < 900 then bnd (setO n (.ins c (putV f v fs vs).1 (putV f v fs vs).2)) fun _ => ret σ else no
      | _ => no
    | _ => no
  | _, _, _ => no
def asgs : List (C F) → List T → Env → M Env
  | [], [], σ => ret σ
  | t :: ts, x :: xs, σ => bnd (asg t x σ) fun σ' => asgs ts xs σ'
  | _, _, _ => no
end
/-- a test -/
def evT (c : C F) (σ : Env) : M Bool := bnd (ev P G mk c σ) truT
mutual
def exS : S F → Env → M (Fl × Env)
  | .expr e, σ => bnd (ev P G mk e σ) fun _ => ret (.nx, σ)
  | .asg tg e, σ => bnd (ev P G mk e σ) fun v => bnd (asg P G mk tg v σ) fun σ' => ret (.nx, σ')
  | .aug i op e, σ => bnd (ofO (σ[i]?.bind id)) fun x => bnd (ev P G mk e σ) fun y => bnd (match op, x, y with
      | .add, .int a, .int b => ret (.int (a + b))
      | .sub, .int a, .int b => ret (.int (a - b))
      | _, _, _ => (no : M T)) fun v => ret (.nx, σ.set i (some v))
  | .ret e, σ => bnd (ev P G mk e σ) fun v => ret (.rt v, σ)
  | .iff c a b, σ => bnd (evT P G mk c σ) fun t => if t then exSs a σ else exSs b σ
  | .whl c b, σ => whlL (evT P G mk c) (exSs b) turns σ
  | .for_ tg it b, σ => bnd (iter P G mk it σ) fun r => forL r.2 (fun x σ => bnd (asg P G mk tg x σ) (exSs b)) r.1 σ
  | .rai, _ => no
  | .pass, σ => ret (.nx, σ)
def exSs : List (S F) → Env → M (Fl × Env)
  | [], σ => ret (.nx, σ)
  | s :: r, σ => bnd (exS s σ) fun q => match q.1 with
    | .nx => exSs r q.2
    | .rt v => ret (.rt v, q.2)
end
end

/-! ### calls -/
mutual
/-- refs are put by r -/
def frzW (r : Nat → Option T) : T → Option T
  | .ref n => r n
  | .tup xs => (frzWs r xs).map .tup
  | .lst xs => (frzWs r xs).map .lst
  | .dic ks vs => (frzWs r vs).map (.dic ks)
  | .obj c fs vs => (frzWs r vs).map (.obj c fs)
  | .non => some .non
  | .bl b => some (.bl b)
  | .int i => some (.int i)
  | .str x => some (.str x)
  | .byt b => some (.byt b)
  | .scr ns => some (.scr ns)
def frzWs (r : Nat → Option T) : List T → Option (List T)
  | [] => some []
  | x :: xs => match frzW r x, frzWs r xs with
    | some y, some ys => some (y :: ys)
    | _, _ => none
end
def r0 (n0 : Nat) (n : Nat) : Option T := if n < n0 then some (.ref n) else none
def rUp (n0 : Nat) (h : Sto) (r : Nat → Option T) (n : Nat) : Option T := if n < n0 then some (.ref n) else match h[n]? with
  | some (.lst xs) => (frzWs r xs).map .lst
  | some (.dic ks vs) => (frzWs r vs).map (.dic ks)
  | _ => none
/-- what stands from n0 on is frozen, two deep -/
def frz (n0 : Nat) (h : Sto) : T → Option T := frzW (rUp n0 h (rUp n0 h (r0 n0)))
def cloO (n0 : Nat) : O → Bool
  | .lst xs => (frzWs (r0 n0) xs).isSome
  | .dic _ vs => (frzWs (r0 n0) vs).isSome
  | .ins _ _ vs => (frzWs (r0 n0) vs).isSome
/-- a run's end: what it made is dropped or frozen -/
def fin (n0 : Nat) : R T → R T
  | .ok v h => match frz n0 h v with
    | some v' => if (h.take n0).all (cloO n0) then .ok v' (h.take n0) else .no
    | none => .no
  | .ex v h => match frz n0 h v with
    | some v' => if (h.take n0).all (cloO n0) then .ex v' (h.take n0) else .no
    | none => .no
  | .no => .no
section
variable {F : Type} (P : Prog F)
def runB (G : F → List T → M T) (mk : Nat → Nat → List Nat → List T → M T) (d : Fn F) (as : List T) : M T :=
  if as.length = d.arity then bnd (exSs P G mk d.body (as.map some ++ List.replicate d.nloc none)) fun r => match r.1 with
    | .nx => ret .non
    | .rt v => ret v
  else no
def lift (r : R T) : M T := fun h => match r with
  | .ok v _ => .ok v h
  | .ex v _ => .ex v h
  | .no => .no
/-- a new instance that nothing changes any more -/
def made (c : Nat) : R T → R T
  | .ok .non h => match h[0]? with
    | some (O.ins d fs vs) => (match frzWs (rUp 0 h (r0 0)) vs with
      | some ws => if d = c then .ok (.obj c fs ws) [] else .no
      | none => .no)
    | _ => .no
  | .ex x h => match frz 0 h x with
    | some x' => .ex x' []
    | none => .no
  | _ => .no
mutual
/-- a def, so many calls deep -/
def callN : Nat → F → List T → M T
  | 0, _, _ => no
  | 1, _, _ => no
  | n + 2, f, as => match (P.fn f).mode with
    | .pure => if (frzWs (r0 0) as).isSome then lift (fin 0 (runB P (callN (n + 1)) (makeN (n + 1)) (P.fn f) as [])) else no
    | .shared => fun h => fin h.length (runB P (callN (n + 1)) (makeN (n + 1)) (P.fn f) as h)
    | .keep => runB P (callN (n + 1)) (makeN (n + 1)) (P.fn f) as
/-- a new instance: k values and self are written, then the keywords ks -/
def makeN : Nat → Nat → Nat → List Nat → List T → M T
  | 0, _, _, _, _ => no
  | n + 1, c, k, ks, as => match P.init c with
    | none => no
    | some f => if P.frozen c then (if (frzWs (r0 0) as).isSome then lift (made c (bnd (bindA P f k ks (.ref 0 :: as)) (callN n f) [O.ins c [] []])) else no)
      else bnd (newO (.ins c [] [])) fun x => bnd (bnd (bindA P f k ks (x :: as)) (callN n f)) fun r => match r with
        | .non => ret x
        | _ => no
end
end
end Mt

set_option maxHeartbeats 8000000
/-! Mt2: how trees and the store lie in the abstract heap. -/
namespace Mt
open PySem PySem.Spec PyProof.Rows L2

/-- the names of things in the written part -/
structure Nm where
  K : PySem.W.Frag
  cadr : Nat → Addr
  fnm : Nat → Str
  fnj : ∀ i j, fnm i = fnm j → i = j
  /-- the classes that are asked for; those whose instances there are -/
  kc : Nat → Prop
  ki : Nat → Prop
  clsK : ∀ c, kc c → (PySem.W.clsIn K (cadr c)).isSome = true ∧ PySem.W.typeIn K (.ref (cadr c)) = some (.type "type")
  mroK : ∀ c d, ki c → kc d → c ≠ d → PySem.W.kitOne K (.ref (cadr c)) (.ref (cadr d)) = some false
  insK : ∀ c, ki c → Cls K (cadr c) ∧ PySem.W.findIn K (.ref (cadr c)) "__class__" = some (some (.builtin "object.__class__")) ∧
    PySem.W.specialIn K (.builtin "object.__class__") "__get__" = some (some (.builtin "getset_descriptor.__get__")) ∧ PySem.W.takesIn K (.builtin "object.__class__") = some true ∧
    ∀ n : String, n ∈ ["int", "bool", "str", "tuple", "list", "dict", "bytes"] → PySem.W.kitOne K (.ref (cadr c)) (.type n) = some false
  objK : ∀ c, ki c → PySem.W.mroIn K (cadr c) (.type "object") = some true
  kf : Nat → Prop
  fldK : ∀ c f, ki c → kf f → NoAttr K (cadr c) (fnm f)

def keyT : T → Option Key
  | .int i => some (.inl i)
  | .str x => some (.inr x)
  | _ => none
def keysT : List T → Option (List Key)
  | [] => some []
  | x :: xs => match keyT x, keysT xs with
    | some k, some ks => some (k :: ks)
    | _, _ => none
def tkeyT : T → Option (List Key)
  | .tup xs => keysT xs
  | _ => none
def tkeysT : List T → Option (List (List Key))
  | [] => some []
  | x :: xs => match tkeyT x, tkeysT xs with
    | some k, some ks => some (k :: ks)
    | _, _ => none

abbrev Al := Addr → Prop
abbrev Ro := Nat → Option Addr
/-- frozen: of no store -/
def Fz (L : Al) (ρ : Ro) (a : Addr) : Prop := ¬ L a ∧ ∀ i, ρ i ≠ some a

section
variable (N : Nm) (L : Al) (ρ : Ro) (H : Hp)
/-- a dict of these keys, of the values ys -/
def DicV (a : Addr) (ks : List T) (ys : List V) : Prop := (∃ kk, keysT ks = some kk ∧ kk.length = ys.length ∧ H a = some (.dK (kk.zip ys))) ∨ ∃ kk, tkeysT ks = some kk ∧ kk.length = ys.length ∧ H a = some (.dT (kk.zip ys))
def InsV (a : Addr) (c : Nat) (fs : List Nat) (ys : List V) : Prop := ∃ dx, H a = some (.ins (N.cadr c) dx ((fs.map N.fnm).zip ys)) ∧ H dx = some (.own a) ∧ fs.length = ys.length ∧ N.ki c
/-- the script's list: known, or an object of the module -/
def ScrL (K : PySem.W.Frag) (H : Hp) (a : Addr) (xs : List V) : Prop := (∃ o, H a = some (.frz o (.lst xs))) ∨
  ∃ (o : Obj) (its : Array Value) (n : Nat), K.lookup a = some o ∧ o.cls = .type "list" ∧ o.dict = none ∧ o.data = .seq its n ∧ its.size ≤ sizeLine ∧ Vals xs its.toList
mutual
def Rep : T → V → Prop
  | .non, v => v = .non
  | .bl b, v => v = .bl b
  | .int i, v => v = .int i
  | .str x, v => v = .str x
  | .byt b, v => v = .byt b
  | .tup xs, v => ∃ a ys, v = .ref a ∧ SqT N.K H a ys ∧ Reps xs ys
  | .lst xs, v => ∃ a ys, v = .ref a ∧ Fz L ρ a ∧ H a = some (.lst ys) ∧ Reps xs ys
  | .dic ks vs, v => ∃ a ys, v = .ref a ∧ Fz L ρ a ∧ DicV H a ks ys ∧ Reps vs ys
  | .obj c fs vs, v => ∃ a ys, v = .ref a ∧ Fz L ρ a ∧ InsV N H a c fs ys ∧ Reps vs ys
  | .ref n, v => ∃ a, v = .ref a ∧ ρ n = some a
  | .scr ns, v => ∃ a, v = .ref a ∧ ScrL N.K H a (ns.map .int)
def Reps : List T → List V → Prop
  | [], ys => ys = []
  | x :: xs, ys => ∃ y zs, ys = y :: zs ∧ Rep x y ∧ Reps xs zs
end
def RepO (a : Addr) : O → Prop
  | .lst xs => ∃ ys, H a = some (.lst ys) ∧ Reps N L ρ H xs ys
  | .dic ks vs => ∃ ys, DicV H a ks ys ∧ Reps N L ρ H vs ys
  | .ins c fs vs => ∃ ys, InsV N H a c fs ys ∧ Reps N L ρ H vs ys
/-- an exception in flight: its class, its attributes -/
def RepX (t : T) (cls : Value) (d : Option Addr) : Prop := ∃ c fs vs ys, t = .obj c fs vs ∧ cls = .ref (N.cadr c) ∧ Reps N L ρ H vs ys ∧
  ((fs = [] ∧ ys = [] ∧ d = none) ∨ ∃ dx, d = some dx ∧ H dx = some (exd dx ((fs.map N.fnm).zip ys)) ∧ fs.length = ys.length)
/-- what may stand at a store's address -/
def Lv : Option HO → Prop
  | some (.lst _) => True
  | some (.dK _) => True
  | some (.dT _) => True
  | some (.ins _ _ _) => True
  | _ => False
structure StoOk (h : Sto) : Prop where
  inj : ∀ i j a, ρ i = some a → ρ j = some a → i = j
  dom : ∀ i a, ρ i = some a → i < h.length
  obj : ∀ i o, h[i]? = some o → ∃ a, ρ i = some a ∧ RepO N L ρ H a o
  out : ∀ a, L a → H a ≠ none ∧ ∀ i, ρ i ≠ some a
end
structure Stp (ρ : Ro) (H : Hp) (ρ' : Ro) (H' : Hp) : Prop where
  liv : ∀ i a, ρ i = some a → Lv (H a)
  keep : ∀ a o, H a = some o → (∀ i, ρ i ≠ some a) → H' a = some o
  old : ∀ i a, ρ' i = some a → ρ i = some a ∨ H a = none
  ref : ∀ i a, ρ i = some a → ρ' i = some a

section
variable {N : Nm} {L : Al} {ρ ρ' ρ1 ρ2 : Ro} {H H' H1 H2 : Hp} {h h' : Sto}
theorem Lv.of {o : HO} {a : Addr} (e : H a = some o) (l : Lv (H a)) : Lv (some o) := by rw [e] at l; exact l
theorem RepO.liv {a : Addr} {o : O} (r : RepO N L ρ H a o) : Lv (H a) := by
  cases o with
  | lst xs => obtain ⟨ys, e, _⟩ := r; rw [e]; trivial
  | dic ks vs =>
    obtain ⟨ys, d, _⟩ := r
    rcases d with ⟨kk, _, _, e⟩ | ⟨kk, _, _, e⟩ <;> (rw [e]; trivial)
  | ins c fs vs => obtain ⟨ys, ⟨dx, e, _⟩, _⟩ := r; rw [e]; trivial
theorem StoOk.liv (S : StoOk N L ρ H h) : ∀ i a, ρ i = some a → Lv (H a) := fun i a e => by
  have hi := S.dom i a e
  obtain ⟨b, e2, r⟩ := S.obj i _ (List.getElem?_eq_getElem hi)
  rw [e] at e2; cases e2
  exact r.liv
theorem Stp.refl (l : ∀ i a, ρ i = some a → Lv (H a)) : Stp ρ H ρ H := ⟨l, fun _ _ e _ => e, fun _ _ e => .inl e, fun _ _ e => e⟩
theorem StoOk.stp (S : StoOk N L ρ H h) : Stp ρ H ρ H := Stp.refl S.liv
theorem Stp.trans (a : Stp ρ H ρ1 H1) (b : Stp ρ1 H1 ρ2 H2) : Stp ρ H ρ2 H2 where
  liv := a.liv
  keep := fun x o e n => b.keep x o (a.keep x o e n) fun i q => by
    rcases a.old i x q with z | z
    · exact n i z
    · rw [e] at z; cases z
  old := fun i x e => by
    rcases b.old i x e with z | z
    · exact a.old i x z
    · by_cases q : ∃ j, ρ j = some x
      · obtain ⟨j, q⟩ := q
        have := b.liv j x (a.ref j x q)
        rw [z] at this; exact this.elim
      · cases w : H x with
        | none => exact .inr rfl
        | some o =>
          have := a.keep x o w fun i z => q ⟨i, z⟩
          rw [z] at this; cases this
  ref := fun i x e => b.ref i x (a.ref i x e)
theorem Stp.fz (s : Stp ρ H ρ' H') {a : Addr} {o : HO} (e : H a = some o) (f : Fz L ρ a) : Fz L ρ' a := ⟨f.1, fun i q => by
  rcases s.old i a q with z | z
  · exact f.2 i z
  · rw [e] at z; cases z⟩
theorem Stp.at (s : Stp ρ H ρ' H') {a : Addr} {o : HO} (e : H a = some o) (n : ¬ Lv (some o)) : H' a = some o := s.keep a o e fun i q => n (Lv.of e (s.liv i a q))
theorem Stp.sqT (s : Stp ρ H ρ' H') {K : PySem.W.Frag} {a : Addr} {ys : List V} (e : SqT K H a ys) : SqT K H' a ys := by
  rcases e with (e | ⟨o, e⟩) | e
  · exact .inl (.inl (s.at e id))
  · exact .inl (.inr ⟨o, s.at e id⟩)
  · exact .inr e
theorem Stp.scrL (s : Stp ρ H ρ' H') {K : PySem.W.Frag} {a : Addr} {ys : List V} (e : ScrL K H a ys) : ScrL K H' a ys := by
  rcases e with ⟨o, e⟩ | e
  · exact .inl ⟨o, s.at e id⟩
  · exact .inr e
theorem ScrL.sq {K : PySem.W.Frag} {a : Addr} {ys : List V} (e : ScrL K H a ys) : SqL K H a ys := by
  rcases e with ⟨o, e⟩ | e
  · exact .inl (.inr ⟨o, e⟩)
  · exact .inr e
theorem ScrL.ty {K : PySem.W.Frag} {a : Addr} {ys : List V} (e : ScrL K H a ys) : TyX K H (.ref a) (.type "list") := by
  rcases e with ⟨o, e⟩ | ⟨o, its, n, e, c, _⟩
  · exact .base (.frz e)
  · exact .kList e c
theorem Stp.dicV (s : Stp ρ H ρ' H') {a : Addr} {ks : List T} {ys : List V} (f : Fz L ρ a) (d : DicV H a ks ys) : DicV H' a ks ys := by
  rcases d with ⟨kk, e1, e2, e⟩ | ⟨kk, e1, e2, e⟩
  · exact .inl ⟨kk, e1, e2, s.keep a _ e f.2⟩
  · exact .inr ⟨kk, e1, e2, s.keep a _ e f.2⟩
theorem DicV.some {a : Addr} {ks : List T} {ys : List V} (d : DicV H a ks ys) : ∃ o, H a = some o := by
  rcases d with ⟨kk, _, _, e⟩ | ⟨kk, _, _, e⟩ <;> exact ⟨_, e⟩
theorem Stp.insV (s : Stp ρ H ρ' H') {a : Addr} {c : Nat} {fs : List Nat} {ys : List V} (f : Fz L ρ a) (d : InsV N H a c fs ys) : InsV N H' a c fs ys := by
  obtain ⟨dx, e, e2, l⟩ := d
  exact ⟨dx, s.keep a _ e f.2, s.at e2 id, l⟩
mutual
theorem Rep.stp (s : Stp ρ H ρ' H') : ∀ {t : T} {v : V}, Rep N L ρ H t v → Rep N L ρ' H' t v
  | .non, _, h => h
  | .bl _, _, h => h
  | .int _, _, h => h
  | .str _, _, h => h
  | .byt _, _, h => h
  | .tup xs, _, ⟨a, ys, e, q, r⟩ => ⟨a, ys, e, s.sqT q, Reps.stp s r⟩
  | .lst xs, _, ⟨a, ys, e, f, q, r⟩ => ⟨a, ys, e, s.fz q f, s.keep a _ q f.2, Reps.stp s r⟩
  | .dic ks vs, _, ⟨a, ys, e, f, q, r⟩ => ⟨a, ys, e, let ⟨_, z⟩ := q.some; s.fz z f, s.dicV f q, Reps.stp s r⟩
  | .obj c fs vs, _, ⟨a, ys, e, f, q, r⟩ => ⟨a, ys, e, let ⟨_, z, _⟩ := q; s.fz z f, s.insV f q, Reps.stp s r⟩
  | .ref n, _, ⟨a, e, q⟩ => ⟨a, e, s.ref n a q⟩
  | .scr ns, _, ⟨a, e, q⟩ => ⟨a, e, s.scrL q⟩
theorem Reps.stp (s : Stp ρ H ρ' H') : ∀ {ts : List T} {vs : List V}, Reps N L ρ H ts vs → Reps N L ρ' H' ts vs
  | [], _, h => h
  | _ :: _, _, ⟨y, zs, e, r, q⟩ => ⟨y, zs, e, Rep.stp s r, Reps.stp s q⟩
end
theorem Reps.length : ∀ {ts : List T} {vs : List V}, Reps N L ρ H ts vs → ts.length = vs.length
  | [], _, h => by cases (show _ = [] from h); rfl
  | _ :: _, _, ⟨y, zs, e, _, q⟩ => by rw [e, List.length_cons, List.length_cons, Reps.length q]
theorem Reps.get : ∀ {ts : List T} {vs : List V} {i : Nat} {t : T}, Reps N L ρ H ts vs → ts[i]? = some t → ∃ v, vs[i]? = some v ∧ Rep N L ρ H t v
  | [], _, _, _, _, e => by simp at e
  | _ :: _, _, 0, _, ⟨y, zs, e, r, q⟩, e1 => by
    simp at e1; subst e1 e
    exact ⟨y, rfl, r⟩
  | _ :: _, _, i + 1, _, ⟨y, zs, e, r, q⟩, e1 => by
    obtain ⟨v, h1, h2⟩ := Reps.get (i := i) q (by simpa using e1)
    subst e
    exact ⟨v, by simpa using h1, h2⟩
theorem Reps.append : ∀ {ts us : List T} {vs ws : List V}, Reps N L ρ H ts vs → Reps N L ρ H us ws → Reps N L ρ H (ts ++ us) (vs ++ ws)
  | [], _, _, _, h, h' => by cases (show _ = [] from h); exact h'
  | _ :: _, _, _, _, ⟨y, zs, e, r, q⟩, h' => ⟨y, zs ++ _, by rw [e]; rfl, r, Reps.append q h'⟩
theorem Reps.take : ∀ {ts : List T} {vs : List V} (n : Nat), Reps N L ρ H ts vs → Reps N L ρ H (ts.take n) (vs.take n)
  | _, _, 0, _ => rfl
  | [], _, _ + 1, h => by cases (show _ = [] from h); rfl
  | _ :: _, _, n + 1, ⟨y, zs, e, r, q⟩ => ⟨y, zs.take n, by rw [e]; rfl, r, Reps.take n q⟩
theorem Reps.drop : ∀ {ts : List T} {vs : List V} (n : Nat), Reps N L ρ H ts vs → Reps N L ρ H (ts.drop n) (vs.drop n)
  | _, _, 0, h => h
  | [], _, _ + 1, h => by cases (show _ = [] from h); rfl
  | _ :: _, _, n + 1, ⟨y, zs, e, r, q⟩ => by rw [e]; exact Reps.drop n q
theorem Reps.set {t : T} {v : V} (r0 : Rep N L ρ H t v) : ∀ {ts : List T} {vs : List V} (n : Nat), Reps N L ρ H ts vs → Reps N L ρ H (ts.set n t) (vs.set n v)
  | [], _, _, h => by cases (show _ = [] from h); rfl
  | _ :: _, _, 0, ⟨y, zs, e, r, q⟩ => ⟨v, zs, by rw [e]; rfl, r0, q⟩
  | _ :: _, _, n + 1, ⟨y, zs, e, r, q⟩ => ⟨y, zs.set n v, by rw [e]; rfl, r, Reps.set r0 n q⟩
theorem Reps.ints : ∀ {ns : List Int}, Reps N L ρ H (ns.map .int) (ns.map V.int)
  | [] => rfl
  | n :: ns => ⟨_, _, rfl, rfl, Reps.ints⟩
theorem Reps.of_ints : ∀ {ns : List Int} {ts : List T} {vs : List V}, intsT ts = some ns → Reps N L ρ H ts vs → vs = ns.map V.int
  | ns, [], vs, e, h => by
    cases (show vs = [] from h)
    cases (show some [] = some ns from e)
    rfl
  | ns, t :: ts, vs, e, ⟨y, zs, e2, r, q⟩ => by
    cases t with
    | int i =>
      have e' : (intsT ts).map (i :: ·) = some ns := e
      cases w : intsT ts with
      | none => rw [w] at e'; cases e'
      | some ms =>
        rw [w] at e'; cases e'
        rw [e2, Reps.of_ints w q, (show y = .int i from r)]
        rfl
    | _ => cases e
theorem Reps.of_bls : ∀ {ns : List Bool} {ts : List T} {vs : List V}, blsT ts = some ns → Reps N L ρ H ts vs → vs = ns.map V.bl
  | ns, [], vs, e, h => by
    cases (show vs = [] from h)
    cases (show some [] = some ns from e)
    rfl
  | ns, t :: ts, vs, e, ⟨y, zs, e2, r, q⟩ => by
    cases t with
    | bl i =>
      have e' : (blsT ts).map (i :: ·) = some ns := e
      cases w : blsT ts with
      | none => rw [w] at e'; cases e'
      | some ms =>
        rw [w] at e'; cases e'
        rw [e2, Reps.of_bls w q, (show y = .bl i from r)]
        rfl
    | _ => cases e
mutual
theorem Rep.dp : ∀ {t : T} {v : V} {d : PyData}, Rep N L ρ H t v → t.py = some d → Dp N.K H v d
  | .non, _, _, h, e => by cases h; cases e; exact .non
  | .bl _, _, _, h, e => by cases h; cases e; exact .bl _
  | .int _, _, _, h, e => by cases h; cases e; exact .int _
  | .str _, _, _, h, e => by cases h; cases e; exact .str _
  | .byt _, _, _, h, e => by cases e
  | .tup xs, _, d, ⟨a, ys, e1, q, r⟩, e => by
    have e' : (T.pys xs).map .tuple = some d := e
    cases w : T.pys xs with
    | none => rw [w] at e'; cases e'
    | some ds => rw [w] at e'; cases e'; subst e1; exact .tup q (Reps.dp r w)
  | .lst xs, _, d, ⟨a, ys, e1, f, q, r⟩, e => by
    have e' : (T.pys xs).map .list = some d := e
    cases w : T.pys xs with
    | none => rw [w] at e'; cases e'
    | some ds => rw [w] at e'; cases e'; subst e1; exact .lst (.inl (.inl q)) (Reps.dp r w)
  | .dic _ _, _, _, _, e => by cases e
  | .obj _ _ _, _, _, _, e => by cases e
  | .ref _, _, _, _, e => by cases e
  | .scr _, _, _, _, e => by cases e
theorem Reps.dp : ∀ {ts : List T} {vs : List V} {ds : List PyData}, Reps N L ρ H ts vs → T.pys ts = some ds → DpAll N.K H vs ds
  | [], _, _, h, e => by
    cases (show _ = [] from h)
    cases e
    exact .nil
  | t :: ts, _, ds, ⟨y, zs, e1, r, q⟩, e => by
    subst e1
    have e' : (match t.py, T.pys ts with
      | some d, some ds => some (d :: ds)
      | _, _ => none) = some ds := e
    cases w1 : t.py with
    | none => rw [w1] at e'; cases e'
    | some d =>
      cases w2 : T.pys ts with
      | none => rw [w1, w2] at e'; cases e'
      | some ds' =>
        rw [w1, w2] at e'; cases e'
        exact .cons (Rep.dp r w1) (Reps.dp q w2)
end

/-! ### something new -/
theorem ne_ref {a : Addr} (S : StoOk N L ρ H h) (n : H a = none) : ∀ i, ρ i ≠ some a := fun i e => by
  have := S.liv i a e
  rw [n] at this; exact this
theorem fresh_fz {a : Addr} (S : StoOk N L ρ H h) (n : H a = none) : Fz L ρ a := ⟨fun l => (S.out a l).1 n, ne_ref S n⟩
theorem stp_upd {p : Addr} {o : HO} (S : StoOk N L ρ H h) (n : H p = none) : Stp ρ H ρ (upd H p o) :=
  ⟨S.liv, fun a u e _ => by rw [upd_ne (ne_of_none e n)]; exact e, fun _ _ e => .inl e, fun _ _ e => e⟩
theorem DicV.upd {p a : Addr} {o : HO} {ks : List T} {ys : List V} (ne : a ≠ p) (d : DicV H a ks ys) : DicV (L2.upd H p o) a ks ys := by
  rcases d with ⟨kk, e1, e2, e⟩ | ⟨kk, e1, e2, e⟩
  · exact .inl ⟨kk, e1, e2, by rw [upd_ne ne]; exact e⟩
  · exact .inr ⟨kk, e1, e2, by rw [upd_ne ne]; exact e⟩
theorem RepO.upd {p a : Addr} {u : HO} {o : O} (n : H p = none) (s : Stp ρ H ρ' (L2.upd H p u)) (r : RepO N L ρ H a o) : RepO N L ρ' (L2.upd H p u) a o := by
  cases o with
  | lst xs => obtain ⟨ys, e, q⟩ := r; exact ⟨ys, by rw [upd_ne (ne_of_none e n)]; exact e, q.stp s⟩
  | dic ks vs => obtain ⟨ys, e, q⟩ := r; exact ⟨ys, e.upd (let ⟨_, z⟩ := e.some; ne_of_none z n), q.stp s⟩
  | ins c fs vs =>
    obtain ⟨ys, ⟨dx, e, e2, l⟩, q⟩ := r
    exact ⟨ys, ⟨dx, by rw [upd_ne (ne_of_none e n)]; exact e, by rw [upd_ne (ne_of_none e2 n)]; exact e2, l⟩, q.stp s⟩
theorem StoOk.upd {p : Addr} {u : HO} (S : StoOk N L ρ H h) (n : H p = none) : StoOk N L ρ (L2.upd H p u) h :=
  ⟨S.inj, S.dom, fun i o e => let ⟨a, e1, r⟩ := S.obj i o e; ⟨a, e1, r.upd n (stp_upd S n)⟩, fun a l => ⟨by
    rw [upd_ne (fun z => (S.out a l).1 (by rw [z]; exact n))]
    exact (S.out a l).1, (S.out a l).2⟩⟩
/-- .. put into the store -/
def rIns (ρ : Ro) (k : Nat) (p : Addr) : Ro := fun i => if i = k then some p else ρ i
theorem rIns_old {k i : Nat} {p : Addr} (ne : i ≠ k) : rIns ρ k p i = ρ i := if_neg ne
theorem rIns_new {k : Nat} {p : Addr} : rIns ρ k p k = some p := if_pos rfl
theorem stp_ins {p : Addr} {u : HO} (S : StoOk N L ρ H h) (n : H p = none) : Stp ρ H (rIns ρ h.length p) (L2.upd H p u) :=
  ⟨S.liv, (stp_upd S n).keep, fun i a e => by
    by_cases q : i = h.length
    · subst q; rw [rIns_new] at e; cases e; exact .inr n
    · rw [rIns_old q] at e; exact .inl e, fun i a e => by
    rw [rIns_old (fun z => absurd (S.dom i a e) (by rw [z]; exact Nat.lt_irrefl _))]; exact e⟩
theorem StoOk.ins {p : Addr} {o : O} {u : HO} (S : StoOk N L ρ H h) (n : H p = none) (r : RepO N L (rIns ρ h.length p) (L2.upd H p u) p o) : StoOk N L (rIns ρ h.length p) (L2.upd H p u) (h ++ [o]) where
  inj := fun i j a e1 e2 => by
    by_cases q1 : i = h.length
    · by_cases q2 : j = h.length
      · rw [q1, q2]
      · rw [q1, rIns_new] at e1; cases e1; rw [rIns_old q2] at e2; exact absurd e2 (ne_ref S n j)
    · rw [rIns_old q1] at e1
      by_cases q2 : j = h.length
      · rw [q2, rIns_new] at e2; cases e2; exact absurd e1 (ne_ref S n i)
      · rw [rIns_old q2] at e2; exact S.inj i j a e1 e2
  dom := fun i a e => by
    by_cases q : i = h.length
    · rw [q]; simp
    · rw [rIns_old q] at e; have := S.dom i a e; rw [List.length_append]; exact Nat.lt_add_right _ this
  obj := fun i v e => by
    by_cases q : i < h.length
    · rw [List.getElem?_append_left q] at e
      obtain ⟨a, e1, r1⟩ := S.obj i v e
      exact ⟨a, by rw [rIns_old (Nat.ne_of_lt q)]; exact e1, r1.upd n (stp_ins S n)⟩
    · have hl : i < (h ++ [o]).length := (List.getElem?_eq_some_iff.mp e).1
      rw [List.length_append] at hl
      have q2 : i = h.length := by simp at hl; omega
      subst q2
      rw [List.getElem?_append_right (Nat.le_refl _), Nat.sub_self] at e
      cases e
      exact ⟨p, rIns_new, r⟩
  out := fun a l => ⟨((S.upd n).out a l).1, fun i e => by
    by_cases q : i = h.length
    · rw [q, rIns_new] at e; cases e; exact (S.out p l).1 n
    · rw [rIns_old q] at e; exact (S.out a l).2 i e⟩
end
end Mt

set_option maxHeartbeats 8000000
/-! Mt3: the operations by values are those of the machine. -/
namespace Mt
open PySem PySem.Spec PyProof.Rows L2

section
variable (N : Nm) {α β γ δ : Type}
abbrev Rl (α β : Type) := Al → Ro → Hp → α → β → Prop
/-- a run's end is such that Q, or, where it raises, W -/
def Out (rl : Rl α β) (W : XK) (L : Al) (ρ : Ro) (H : Hp) (r : R α) (Q : β → Hp → Prop) : Prop :=
  (∃ a h', r = .ok a h' ∧ ∀ b H' ρ', Stp ρ H ρ' H' → StoOk N L ρ' H' h' → rl L ρ' H' a b → Q b H') ∨
    ∃ x h', r = .ex x h' ∧ ∀ cls d H' ρ', Stp ρ H ρ' H' → StoOk N L ρ' H' h' → RepX N L ρ' H' x cls d → W cls d H'
end
section
variable {N : Nm} {α β γ δ : Type} {rl : Rl α β} {rm : Rl γ δ} {W : XK} {L : Al} {ρ : Ro} {H : Hp} {h : Sto}
theorem Out.bnd {m : M α} {f : α → M γ} {Q : δ → Hp → Prop} (o : Out N rm W L ρ H (bnd m f h) Q) : Out N rl W L ρ H (m h) fun b H1 => ∃ ρ1 a h1, m h = .ok a h1 ∧ Stp ρ H ρ1 H1 ∧ StoOk N L ρ1 H1 h1 ∧ rl L ρ1 H1 a b ∧ Out N rm W L ρ1 H1 (f a h1) Q := by
  unfold Mt.bnd at o
  cases q : m h with
  | ok a h1 =>
    rw [q] at o
    refine .inl ⟨a, h1, rfl, fun b H1 ρ1 s1 S1 r1 => ⟨ρ1, a, h1, rfl, s1, S1, r1, ?_⟩⟩
    rcases o with ⟨c, h2, e2, k⟩ | ⟨x, h2, e2, k⟩
    · exact .inl ⟨c, h2, e2, fun d H2 ρ2 s2 S2 r2 => k d H2 ρ2 (s1.trans s2) S2 r2⟩
    · exact .inr ⟨x, h2, e2, fun c d H2 ρ2 s2 S2 r2 => k c d H2 ρ2 (s1.trans s2) S2 r2⟩
  | ex x h1 =>
    rw [q] at o
    rcases o with ⟨c, h2, e2, k⟩ | ⟨y, h2, e2, k⟩
    · cases e2
    · cases e2; exact .inr ⟨_, _, rfl, k⟩
  | no =>
    rw [q] at o
    rcases o with ⟨c, h2, e2, k⟩ | ⟨y, h2, e2, k⟩ <;> cases e2
theorem Out.no {Q : β → Hp → Prop} (o : Out N rl W L ρ H .no Q) : False := by
  rcases o with ⟨c, h2, e, k⟩ | ⟨c, h2, e, k⟩ <;> cases e
theorem Out.okD {a : α} {h' : Sto} {Q : β → Hp → Prop} (o : Out N rl W L ρ H (.ok a h') Q) : ∀ b H' ρ', Stp ρ H ρ' H' → StoOk N L ρ' H' h' → rl L ρ' H' a b → Q b H' := by
  rcases o with ⟨c, h2, e, k⟩ | ⟨c, h2, e, k⟩
  · cases e; exact k
  · cases e
theorem Out.ret {a : α} {b : β} {Q : β → Hp → Prop} (o : Out N rl W L ρ H (ret a h) Q) (S : StoOk N L ρ H h) (r : rl L ρ H a b) : Q b H := o.okD b H ρ S.stp S r
theorem Out.bndO {a : Option α} {f : α → M γ} {Q : δ → Hp → Prop} (o : Out N rm W L ρ H (Mt.bnd (Mt.ofO a) f h) Q) : ∃ x, a = some x ∧ Out N rm W L ρ H (f x h) Q := by
  cases a with
  | none => exact o.no.elim
  | some x => exact ⟨x, rfl, o⟩
theorem Out.ofO {a : Option α} {Q : β → Hp → Prop} (o : Out N rl W L ρ H (ofO a h) Q) : ∃ x, a = some x ∧ Out N rl W L ρ H (Mt.ret x h) Q := by
  cases a with
  | none => exact o.no.elim
  | some x => exact ⟨x, rfl, o⟩
theorem Out.ite {c : Prop} [Decidable c] {m n : M α} {Q : β → Hp → Prop} (o : Out N rl W L ρ H ((if c then m else n) h) Q) : (c ∧ Out N rl W L ρ H (m h) Q) ∨ (¬ c ∧ Out N rl W L ρ H (n h) Q) := by
  by_cases q : c
  · rw [if_pos q] at o; exact .inl ⟨q, o⟩
  · rw [if_neg q] at o; exact .inr ⟨q, o⟩
theorem Out.iteN {c : Prop} [Decidable c] {m : M α} {Q : β → Hp → Prop} (o : Out N rl W L ρ H ((if c then m else Mt.no) h) Q) : c ∧ Out N rl W L ρ H (m h) Q := by
  rcases o.ite with z | ⟨_, z⟩
  · exact z
  · exact z.no.elim
theorem Out.getO {n : Nat} {f : O → M α} {Q : β → Hp → Prop} (o : Out N rl W L ρ H (Mt.bnd (getO n) f h) Q) : ∃ u, h[n]? = some u ∧ Out N rl W L ρ H (f u h) Q := by
  unfold Mt.bnd Mt.getO at o
  cases q : h[n]? with
  | none => rw [q] at o; exact o.no.elim
  | some u => rw [q] at o; exact ⟨u, rfl, o⟩
/-- the exception's wish alone is changed -/
theorem Out.wish {W' : XK} {r : R α} {Q : β → Hp → Prop} (o : Out N rl W L ρ H r Q) (hw : ∀ c d H, W c d H → W' c d H) : Out N rl W' L ρ H r Q := by
  rcases o with z | ⟨x, h', e, k⟩
  · exact .inl z
  · exact .inr ⟨x, h', e, fun c d H' ρ' s S r => hw _ _ _ (k c d H' ρ' s S r)⟩
theorem Out.imp {r : R α} {Q Q' : β → Hp → Prop} (o : Out N rl W L ρ H r Q) (hq : ∀ b H, Q b H → Q' b H) : Out N rl W L ρ H r Q' := by
  rcases o with ⟨a, h', e, k⟩ | z
  · exact .inl ⟨a, h', e, fun b H' ρ' s S r => hq _ _ (k b H' ρ' s S r)⟩
  · exact .inr z
end

section
variable {N : Nm} {W : XK} {L : Al} {ρ : Ro} {H : Hp} {h : Sto}
abbrev RT (N : Nm) : Rl T V := Rep N
abbrev RTs (N : Nm) : Rl (List T) (List V) := Reps N
abbrev RB : Rl Bool Bool := fun _ _ _ a b => a = b
/-- a new list -/
theorem Out.mkL {m : Bool} {xs : List T} {ys : List V} {Q : VK} (o : Out N (RT N) W L ρ H (mkL m xs h) Q) (S : StoOk N L ρ H h) (r : Reps N L ρ H xs ys) : ∀ p, H p = none → Q (.ref p) (upd H p (.lst ys)) := fun p n => by
  cases m with
  | false =>
    have k := o.okD
    exact k _ _ _ (stp_upd S n) (S.upd n) ⟨p, ys, rfl, fresh_fz S n, upd_same, r.stp (stp_upd S n)⟩
  | true =>
    have k := o.okD
    exact k _ _ _ (stp_ins S n) (S.ins n ⟨ys, upd_same, r.stp (stp_ins S n)⟩) ⟨p, rfl, rIns_new⟩
/-- a new tuple -/
theorem Out.tup {xs : List T} {ys : List V} {Q : VK} (o : Out N (RT N) W L ρ H (Mt.ret (.tup xs) h) Q) (S : StoOk N L ρ H h) (r : Reps N L ρ H xs ys) : ∀ p, H p = none → Q (.ref p) (upd H p (.tup ys)) := fun p n => by
  have k := o.okD
  exact k _ _ _ (stp_upd S n) (S.upd n) ⟨p, ys, rfl, .inl (.inl upd_same), r.stp (stp_upd S n)⟩
theorem StoOk.lst (S : StoOk N L ρ H h) {n : Nat} {xs : List T} (e : h[n]? = some (.lst xs)) {a : Addr} (q : ρ n = some a) : ∃ ys, H a = some (.lst ys) ∧ Reps N L ρ H xs ys := by
  obtain ⟨b, e1, r⟩ := S.obj n _ e
  rw [q] at e1; cases e1
  exact r
/-- lists and tuples that are read -/
theorem Out.items {α β : Type} {rl : Rl α β} {t : T} {v : V} {f : List T → M α} {Q : β → Hp → Prop} (S : StoOk N L ρ H h) (r : Rep N L ρ H t v) (o : Out N rl W L ρ H (Mt.bnd (itemsT t) f h) Q) :
    ∃ p xs ys, v = .ref p ∧ (SqL N.K H p ys ∨ SqT N.K H p ys) ∧ Reps N L ρ H xs ys ∧ itemsT t h = .ok xs h ∧ Out N rl W L ρ H (f xs h) Q := by
  cases t with
  | tup zs => obtain ⟨a, ys, e1, q, r⟩ := r; exact ⟨a, zs, ys, e1, .inr q, r, rfl, o⟩
  | lst zs => obtain ⟨a, ys, e1, _, q, r⟩ := r; exact ⟨a, zs, ys, e1, .inl (.inl (.inl q)), r, rfl, o⟩
  | scr ns => obtain ⟨a, e1, q⟩ := r; exact ⟨a, _, _, e1, .inl q.sq, Reps.ints, rfl, o⟩
  | ref n =>
    obtain ⟨a, e1, q⟩ := r
    have o' : Out N rl W L ρ H (Mt.bnd (Mt.getO n) (fun u => Mt.bnd (match u with
      | O.lst xs => Mt.ret xs
      | _ => Mt.no) f) h) Q := by
      rw [← bnd_assoc]; exact o
    obtain ⟨u, w, o2⟩ := o'.getO
    cases u with
    | lst zs =>
      obtain ⟨ys, hq, rr⟩ := S.lst w q
      exact ⟨a, zs, ys, e1, .inl (.inl (.inl hq)), rr, (bnd_getO w : Mt.bnd (Mt.getO n) _ h = _), o2⟩
    | _ => exact o2.no.elim
  | _ => exact o.no.elim
end

section
variable {N : Nm} {W : XK} {L : Al} {ρ : Ro} {H : Hp} {h : Sto}
theorem Out.lists {α β : Type} {rl : Rl α β} {t : T} {v : V} {f : List T → M α} {Q : β → Hp → Prop} (S : StoOk N L ρ H h) (r : Rep N L ρ H t v) (o : Out N rl W L ρ H (Mt.bnd (listT t) f h) Q) :
    ∃ p xs ys, v = .ref p ∧ SqL N.K H p ys ∧ Reps N L ρ H xs ys ∧ Out N rl W L ρ H (f xs h) Q := by
  cases t with
  | tup zs => exact o.no.elim
  | lst zs => obtain ⟨a, ys, e1, _, q, r⟩ := r; exact ⟨a, zs, ys, e1, .inl (.inl q), r, o⟩
  | scr ns => obtain ⟨a, e1, q⟩ := r; exact ⟨a, _, _, e1, q.sq, Reps.ints, o⟩
  | ref n =>
    obtain ⟨p, xs, ys, e1, hq, rr, ei, o⟩ := Out.items S r (show Out N rl W L ρ H (Mt.bnd (itemsT (.ref n)) f h) Q from o)
    obtain ⟨a, e2, q⟩ := r
    rcases hq with hq | hq
    · exact ⟨p, xs, ys, e1, hq, rr, o⟩
    · rw [e1] at e2; cases e2
      have l := S.liv n p q
      rcases hq with (z | ⟨ob, z⟩) | ⟨ob, its, k, z, hc, _⟩
      · rw [z] at l; exact l.elim
      · rw [z] at l; exact l.elim
      · obtain ⟨u, w, _⟩ := Out.getO (f := fun u => Mt.bnd (match u with
          | O.lst xs => Mt.ret xs
          | _ => Mt.no) (fun _ => f xs)) (by rw [← bnd_assoc]; exact (show Out N rl W L ρ H (Mt.bnd (itemsT (.ref n)) (fun _ => f xs) h) Q by unfold Mt.bnd; rw [ei]; exact o))
        cases u with
        | lst us =>
          obtain ⟨ws, hl, rw_⟩ := S.lst w q
          have : itemsT (.ref n) h = .ok us h := (bnd_getO w : Mt.bnd (Mt.getO n) _ h = _)
          rw [ei] at this; cases this
          exact ⟨p, xs, ws, e1, .inl (.inl hl), rw_, o⟩
        | dic ks vs => rw [show itemsT (.ref n) h = .no from (bnd_getO w : Mt.bnd (Mt.getO n) _ h = _)] at ei; cases ei
        | ins c fs vs => rw [show itemsT (.ref n) h = .no from (bnd_getO w : Mt.bnd (Mt.getO n) _ h = _)] at ei; cases ei
  | _ => exact o.no.elim
end

/-! ### readings made of meanings -/
section
variable (N : Nm)
def r2 (f : T → T → M T) : R2 := fun x y H Q => ∃ W L ρ h a b, StoOk N L ρ H h ∧ Rep N L ρ H a x ∧ Rep N L ρ H b y ∧ Out N (RT N) W L ρ H (f a b h) Q
def r1 (f : T → M T) : V → Hp → VK → Prop := fun x H Q => ∃ W L ρ h a, StoOk N L ρ H h ∧ Rep N L ρ H a x ∧ Out N (RT N) W L ρ H (f a h) Q
def rB (f : T → M Bool) : V → Hp → (Bool → Hp → Prop) → Prop := fun x H Q => ∃ W L ρ h a, StoOk N L ρ H h ∧ Rep N L ρ H a x ∧ Out N RB W L ρ H (f a h) Q
def rN (f : List T → M T) : List V → Hp → VK → Prop := fun xs H Q => ∃ W L ρ h as, StoOk N L ρ H h ∧ Reps N L ρ H as xs ∧ Out N (RT N) W L ρ H (f as h) Q
def rM (f : T → List T → M T) : V → List V → Hp → VK → Prop := fun x xs H Q => ∃ W L ρ h a as, StoOk N L ρ H h ∧ Rep N L ρ H a x ∧ Reps N L ρ H as xs ∧ Out N (RT N) W L ρ H (f a as h) Q
end

section
variable {N : Nm} {X : Cx} (hK : X.K = N.K)
include hK
theorem Reps.one {L : Al} {ρ : Ro} {H : Hp} {t : T} {ys : List V} (r : Reps N L ρ H [t] ys) : ∃ y, ys = [y] ∧ Rep N L ρ H t y := by
  obtain ⟨y, zs, e, r1, r2⟩ := r
  cases (show zs = [] from r2)
  exact ⟨y, e, r1⟩
theorem Reps.two {L : Al} {ρ : Ro} {H : Hp} {t u : T} {ys : List V} (r : Reps N L ρ H [t, u] ys) : ∃ y z, ys = [y, z] ∧ Rep N L ρ H t y ∧ Rep N L ρ H u z := by
  obtain ⟨y, zs, e, r1, r2⟩ := r
  obtain ⟨z, e2, r3⟩ := Reps.one hK r2
  exact ⟨y, z, by rw [e, e2], r1, r3⟩
theorem reps_flat {L : Al} {ρ : Ro} {H : Hp} {xs : List T} {ys : List V} (r : Reps N L ρ H xs ys) : ∀ k : Nat, Reps N L ρ H (List.replicate k xs).flatten (List.replicate k ys).flatten
  | 0 => rfl
  | k + 1 => by
    rw [List.replicate_succ, List.replicate_succ, List.flatten_cons, List.flatten_cons]
    exact r.append (reps_flat r k)
theorem ok_add {m : Bool} : OpR X (binaryOp .Add) (r2 N (addT m)) := by
  intro pins s σ H x y v u Q I rx ry ⟨W, L, ρ, h, a, b, S, ra, rb, o⟩
  cases a with
  | int i => cases b with
    | int j => exact op_add pins s σ H x y v u Q I rx ry ⟨i, j, ra, rb, o.ret S (show Rep N L ρ H (.int (i + j)) (.int (i + j)) from rfl)⟩
    | _ => exact o.no.elim
  | str i => cases b with
    | str j =>
      obtain ⟨c, o⟩ := o.iteN
      exact op_add_str pins s σ H x y v u Q I rx ry ⟨i, j, ra, rb, c, o.ret S (show Rep N L ρ H (.str (i ++ j)) (.str (i ++ j)) from rfl)⟩
    | _ => exact o.no.elim
  | tup xs => cases b with
    | tup ys =>
      obtain ⟨c, o⟩ := o.iteN
      have ra' := ra
      have rb' := rb
      obtain ⟨p, vs, e1, q1, s1⟩ := ra
      obtain ⟨q, ws, e2, q2, s2⟩ := rb
      have l1 := s1.length
      have l2 := s2.length
      refine op_catA pins s σ H x y v u Q I rx ry ⟨p, q, vs, ws, e1, e2, by rw [hK]; exact q1, by rw [hK]; exact q2, by omega, fun z => ?_, fun z1 z2 => ?_, fun z1 z2 => o.tup S (s1.append s2)⟩
      · have : xs = [] := List.eq_nil_of_length_eq_zero (by rw [l1, z]; rfl)
        subst this
        have w := o.ret S (b := y) rb'
        rw [e2] at w; exact w
      · have : ys = [] := List.eq_nil_of_length_eq_zero (by rw [l2, z2]; rfl)
        subst this
        rw [List.append_nil] at o
        have w := o.ret S (b := x) ra'
        rw [e1] at w; exact w
    | _ => exact o.no.elim
  | lst xs => cases b with
    | lst ys =>
      obtain ⟨c, o⟩ := o.iteN
      obtain ⟨p, vs, e1, _, q1, s1⟩ := ra
      obtain ⟨q, ws, e2, _, q2, s2⟩ := rb
      have l1 := s1.length
      have l2 := s2.length
      exact op_cat pins s σ H x y v u Q I rx ry ⟨p, q, vs, ws, e1, e2, q1, q2, by omega, o.mkL S (s1.append s2)⟩
    | _ => exact o.no.elim
  | _ => exact o.no.elim
theorem ok_mul {m : Bool} : OpR X (binaryOp .Mult) (r2 N (mulT m)) := by
  intro pins s σ H x y v u Q I rx ry ⟨W, L, ρ, h, a, b, S, ra, rb, o⟩
  cases a with
  | int i => cases b with
    | int j =>
      obtain ⟨c, o⟩ := o.iteN
      refine op_mul pins s σ H x y v u Q I rx ry ⟨i, j, ra, rb, ?_, o.ret S (show Rep N L ρ H (.int (i * j)) (.int (i * j)) from rfl)⟩
      simp only [rng64, Bool.or_eq_true, Bool.and_eq_true, decide_eq_true_eq] at c
      exact c
    | _ => exact o.no.elim
  | lst xs => cases b with
    | int k =>
      obtain ⟨⟨c1, c2, c3⟩, o⟩ := o.iteN
      obtain ⟨p, vs, e1, _, q1, s1⟩ := ra
      have l1 := s1.length
      have hz : sizeLine = 16777216 := sizeLine_eq
      exact op_rep pins s σ H x y v u Q I rx ry ⟨p, k, vs, e1, rb, q1, by omega, by omega, by rw [← l1]; omega, o.mkL S (reps_flat hK s1 _)⟩
    | _ => exact o.no.elim
  | _ => exact o.no.elim
def opO : Op → Operator
  | .add => .Add
  | .sub => .Sub
  | .mul => .Mult
  | .fdiv => .FloorDiv
  | .mod => .Mod
  | .pow => .Pow
omit hK in
theorem int2 {f : Int → Int → M T} {g : T → T → M T} {W : XK} {L : Al} {ρ : Ro} {H : Hp} {h : Sto} {a b : T} {Q : VK} (o : Out N (RT N) W L ρ H (g a b h) Q) (he : ∀ a b, g a b = match a, b with
    | .int i, .int j => f i j
    | _, _ => no) : ∃ i j, a = .int i ∧ b = .int j ∧ Out N (RT N) W L ρ H (f i j h) Q := by
  rw [he] at o
  cases a with
  | int i => cases b with
    | int j => exact ⟨i, j, rfl, rfl, o⟩
    | _ => exact o.no.elim
  | _ => exact o.no.elim
omit hK in
theorem log_small {j : Int} (c : 0 < j ∧ j < 2 ^ 256) : j.natAbs.log2 < 9000 := by
  have h0 : j.natAbs ≠ 0 := by omega
  rw [Nat.log2_lt h0]
  have h1 : j.natAbs < 2 ^ 256 := by
    have := c.2
    have e : ((j.natAbs : Nat) : Int) = j := by omega
    have e2 : ((j.natAbs : Nat) : Int) < ((2 ^ 256 : Nat) : Int) := by rw [e]; simpa using this
    exact Int.ofNat_lt.mp e2
  exact Nat.lt_of_lt_of_le h1 (Nat.pow_le_pow_right (Nat.succ_pos 1) (Nat.le_of_ble_eq_true rfl))
theorem ok_op {m : Bool} : ∀ op : Op, OpR X (binaryOp (opO op)) (r2 N (opT m op))
  | .add => ok_add hK
  | .mul => ok_mul hK
  | .sub => by
    intro pins s σ H x y v u Q I rx ry ⟨W, L, ρ, h, a, b, S, ra, rb, o⟩
    obtain ⟨i, j, rfl, rfl, o⟩ := int2 (f := fun i j => ret (.int (i - j))) o (by intro a b; cases a <;> cases b <;> rfl)
    exact op_sub pins s σ H x y v u Q I rx ry ⟨i, j, ra, rb, o.ret S (show Rep N L ρ H (.int (i - j)) (.int (i - j)) from rfl)⟩
  | .fdiv => by
    intro pins s σ H x y v u Q I rx ry ⟨W, L, ρ, h, a, b, S, ra, rb, o⟩
    obtain ⟨i, j, rfl, rfl, o⟩ := int2 (f := fun i j => if 0 < j ∧ j < 2 ^ 256 then ret (.int (i / j)) else no) o (by intro a b; cases a <;> cases b <;> rfl)
    obtain ⟨c, o⟩ := o.iteN
    exact op_fdivW pins s σ H x y v u Q I rx ry ⟨i, j, ra, rb, ⟨c.1, log_small c⟩, o.ret S (show Rep N L ρ H (.int (i / j)) (.int (i / j)) from rfl)⟩
  | .mod => by
    intro pins s σ H x y v u Q I rx ry ⟨W, L, ρ, h, a, b, S, ra, rb, o⟩
    obtain ⟨i, j, rfl, rfl, o⟩ := int2 (f := fun i j => if 0 < j then ret (.int (i % j)) else no) o (by intro a b; cases a <;> cases b <;> rfl)
    obtain ⟨c, o⟩ := o.iteN
    exact op_mod pins s σ H x y v u Q I rx ry ⟨i, j, ra, rb, c, o.ret S (show Rep N L ρ H (.int (i % j)) (.int (i % j)) from rfl)⟩
  | .pow => by
    intro pins s σ H x y v u Q I rx ry ⟨W, L, ρ, h, a, b, S, ra, rb, o⟩
    obtain ⟨i, j, rfl, rfl, o⟩ := int2 (f := fun i j => if 0 ≤ j ∧ j ≤ 1000000 ∧ i.natAbs < 2 ^ 64 then ret (.int (i ^ j.toNat)) else no) o (by intro a b; cases a <;> cases b <;> rfl)
    obtain ⟨c, o⟩ := o.iteN
    exact op_pow pins s σ H x y v u Q I rx ry ⟨i, j, ra, rb, c, o.ret S (show Rep N L ρ H (.int (i ^ j.toNat)) (.int (i ^ j.toNat)) from rfl)⟩
theorem ok_neg : UnR X (unaryOp .USub) (r1 N negT) := by
  intro pins s σ H x v Q I rx ⟨W, L, ρ, h, a, S, ra, o⟩
  cases a with
  | int i => exact un_neg pins s σ H x v Q I rx ⟨i, ra, o.ret S (show Rep N L ρ H (.int (-i)) (.int (-i)) from rfl)⟩
  | _ => exact o.no.elim
/-- truth -/
theorem ok_tru : TruR X (rB N truT) := by
  intro pins s σ H x v Q I rx ⟨W, L, ρ, h, a, S, ra, o⟩
  have go : ∀ k, TruV X.K x H k → Out N RB W L ρ H (ret k h) Q → wpAny (model X.prog X.w) X.A (truthy v) (TP X pins σ Q) X.xe s := fun k t o => tru_ok pins s σ H x v Q I rx ⟨k, t, o.ret S rfl⟩
  cases a with
  | non => cases ra; exact go _ rfl o
  | bl b => cases ra; exact go _ rfl o
  | int i => cases ra; exact go _ rfl o
  | str z =>
    cases ra
    obtain ⟨c, o⟩ := o.iteN
    exact go _ ⟨c, by
      show (z.length != 0) = ((z.length : Int) != 0)
      cases e : z.length with
      | zero => rfl
      | succ n => simp; omega⟩ o
  | tup xs =>
    obtain ⟨p, vs, rfl, q, r⟩ := ra
    exact go _ (.inr (.inl ⟨vs, by rw [hK]; exact q, by cases xs with
      | nil => cases (show vs = [] from r); rfl
      | cons _ _ => obtain ⟨y, zs, e, _⟩ := r; rw [e]; rfl⟩)) o
  | lst xs =>
    obtain ⟨p, vs, rfl, _, q, r⟩ := ra
    exact go _ (.inl ⟨vs, .inl (.inl q), by cases xs with
      | nil => cases (show vs = [] from r); rfl
      | cons _ _ => obtain ⟨y, zs, e, _⟩ := r; rw [e]; rfl⟩) o
  | _ => exact o.no.elim
end
end Mt

set_option maxHeartbeats 8000000
/-! Mt4: comparisons, subscripts, built-ins, methods of lists. -/
namespace Mt
open PySem PySem.Spec PyProof.Rows L2
def cmO : Cm → CmpOp
  | .eq => .Eq
  | .ne => .NotEq
  | .lt => .Lt
  | .le => .LtE
  | .gt => .Gt
  | .ge => .GtE
  | .is => .Is
  | .isn => .IsNot
  | .in_ => .In
  | .nin => .NotIn
def cmpM (op : Cm) (x y : T) : M T := bnd (ofO (cmpT op x y)) fun b => ret (.bl b)
section
variable {N : Nm} {X : Cx} (hK : X.K = N.K)
theorem eqT_some {a b : T} {k : Bool} (e : eqT a b = some k) : ∃ d d', a.py = some d ∧ b.py = some d' ∧ SeqAt.shaped d = true ∧ SeqAt.shaped d' = true ∧ PyData.eqv d d' = k := by
  unfold eqT at e
  cases h1 : a.py with
  | none => rw [h1] at e; cases e
  | some d =>
    cases h2 : b.py with
    | none => rw [h1, h2] at e; cases e
    | some d' =>
      rw [h1, h2] at e
      have e' : (if (SeqAt.shaped d && SeqAt.shaped d') = true then some (PyData.eqv d d') else none) = some k := e
      by_cases q : (SeqAt.shaped d && SeqAt.shaped d') = true
      · rw [if_pos q] at e'
        rw [Bool.and_eq_true] at q
        exact ⟨d, d', rfl, rfl, q.1, q.2, Option.some.inj e'⟩
      · rw [if_neg q] at e'; cases e'
theorem inT_some {x y : T} {k : Bool} (e : inT x y = some k) : ∃ d ds, x.py = some d ∧ SeqAt.shaped d = true ∧ (ds.any fun z => PyData.eqv z d) = k ∧ ((∃ ys, y = .tup ys ∧ T.pys ys = some ds ∧ SeqAt.shaped (.tuple ds) = true) ∨ ∃ ys, y = .lst ys ∧ T.pys ys = some ds ∧ SeqAt.shaped (.list ds) = true) := by
  cases y with
  | tup ys =>
    have e : (match x.py, T.pys ys with
      | some d, some ds => if SeqAt.shaped d && SeqAt.shaped (.tuple ds) then some (ds.any fun z => PyData.eqv z d) else none
      | _, _ => none) = some k := e
    cases h1 : x.py with
    | none => rw [h1] at e; cases e
    | some d =>
      cases h2 : T.pys ys with
      | none => rw [h1, h2] at e; cases e
      | some ds =>
        rw [h1, h2] at e
        have e' : (if (SeqAt.shaped d && SeqAt.shaped (.tuple ds)) = true then some (ds.any fun z => PyData.eqv z d) else none) = some k := e
        by_cases q : (SeqAt.shaped d && SeqAt.shaped (.tuple ds)) = true
        · rw [if_pos q] at e'
          rw [Bool.and_eq_true] at q
          exact ⟨d, ds, rfl, q.1, Option.some.inj e', .inl ⟨ys, rfl, h2, q.2⟩⟩
        · rw [if_neg q] at e'; cases e'
  | lst ys =>
    have e : (match x.py, T.pys ys with
      | some d, some ds => if SeqAt.shaped d && SeqAt.shaped (.list ds) then some (ds.any fun z => PyData.eqv z d) else none
      | _, _ => none) = some k := e
    cases h1 : x.py with
    | none => rw [h1] at e; cases e
    | some d =>
      cases h2 : T.pys ys with
      | none => rw [h1, h2] at e; cases e
      | some ds =>
        rw [h1, h2] at e
        have e' : (if (SeqAt.shaped d && SeqAt.shaped (.list ds)) = true then some (ds.any fun z => PyData.eqv z d) else none) = some k := e
        by_cases q : (SeqAt.shaped d && SeqAt.shaped (.list ds)) = true
        · rw [if_pos q] at e'
          rw [Bool.and_eq_true] at q
          exact ⟨d, ds, rfl, q.1, Option.some.inj e', .inr ⟨ys, rfl, h2, q.2⟩⟩
        · rw [if_neg q] at e'; cases e'
  | _ => cases e
theorem isNone_rep {L : Al} {ρ : Ro} {H : Hp} {a : T} {x : V} {k : Bool} (r : Rep N L ρ H a x) (e : isNoneB a = some k) : decide (x = .non) = k := by
  cases a with
  | non => cases r; cases e; rfl
  | bl b => cases r; cases e; rfl
  | int i => cases r; cases e; rfl
  | str i => cases r; cases e; rfl
  | byt i => cases r; cases e; rfl
  | tup xs => obtain ⟨a, ys, rfl, _⟩ := r; cases e; rfl
  | lst xs => obtain ⟨a, ys, rfl, _⟩ := r; cases e; rfl
  | dic xs ys => obtain ⟨a, ys, rfl, _⟩ := r; cases e; rfl
  | obj c xs ys => obtain ⟨a, ys, rfl, _⟩ := r; cases e; rfl
  | ref n => obtain ⟨a, rfl, _⟩ := r; cases e; rfl
  | scr n => obtain ⟨a, rfl, _⟩ := r; cases e; rfl
include hK
theorem ok_cmp (hu : X.A.units + 65 < cLine) : ∀ op : Cm, OpR X (compareOp (cmO op)) (r2 N (cmpM op)) := by
  intro op pins s σ H x y v u Q I rx ry ⟨W, L, ρ, h, a, b, S, ra, rb, o⟩
  obtain ⟨k, e, o⟩ := o.bndO
  have q : Q (.bl k) H := o.ret S (show Rep N L ρ H (.bl k) (.bl k) from rfl)
  have twoI : ∀ {f : Int → Int → Bool}, (∀ a b, cmpT op a b = match a, b with
      | .int i, .int j => some (f i j)
      | _, _ => none) → ∃ i j, x = .int i ∧ y = .int j ∧ f i j = k := fun {f} he => by
    rw [he] at e
    cases a with
    | int i => cases b with
      | int j => exact ⟨i, j, ra, rb, Option.some.inj e⟩
      | _ => cases e
    | _ => cases e
  cases op with
  | eq =>
    obtain ⟨d, d', e1, e2, s1, s2, e3⟩ := eqT_some e
    exact op_eqD (by omega) pins s σ H x y v u Q I rx ry ⟨d, d', by rw [hK]; exact ra.dp e1, by rw [hK]; exact rb.dp e2, s1, s2, by rw [e3]; exact q⟩
  | ne =>
    have e' : (eqT a b).map (!·) = some k := e
    cases w : eqT a b with
    | none => rw [w] at e'; cases e'
    | some k' =>
      rw [w] at e'
      have ek : (!k') = k := Option.some.inj e'
      obtain ⟨d, d', e1, e2, s1, s2, e3⟩ := eqT_some w
      exact op_neD (by omega) pins s σ H x y v u Q I rx ry ⟨d, d', by rw [hK]; exact ra.dp e1, by rw [hK]; exact rb.dp e2, s1, s2, by rw [e3, ek]; exact q⟩
  | lt =>
    obtain ⟨i, j, e1, e2, e3⟩ := twoI (f := fun i j => decide (i < j)) (by intro a b; cases a <;> cases b <;> rfl)
    exact op_lt pins s σ H x y v u Q I rx ry ⟨i, j, e1, e2, by subst e3; exact q⟩
  | le =>
    obtain ⟨i, j, e1, e2, e3⟩ := twoI (f := fun i j => decide (i ≤ j)) (by intro a b; cases a <;> cases b <;> rfl)
    exact op_le pins s σ H x y v u Q I rx ry ⟨i, j, e1, e2, by subst e3; exact q⟩
  | gt =>
    obtain ⟨i, j, e1, e2, e3⟩ := twoI (f := fun i j => decide (j < i)) (by intro a b; cases a <;> cases b <;> rfl)
    exact op_gt pins s σ H x y v u Q I rx ry ⟨i, j, e1, e2, by subst e3; exact q⟩
  | ge =>
    obtain ⟨i, j, e1, e2, e3⟩ := twoI (f := fun i j => decide (j ≤ i)) (by intro a b; cases a <;> cases b <;> rfl)
    exact op_ge pins s σ H x y v u Q I rx ry ⟨i, j, e1, e2, by subst e3; exact q⟩
  | is =>
    have e : isT a b = some k := e
    cases b with
    | non =>
      have e : isNoneB a = some k := by cases a <;> exact e
      exact op_isN pins s σ H x y v u Q I rx ry ⟨rb, by rw [isNone_rep ra e]; exact q⟩
    | bl c => cases a with
      | bl d =>
        have e : some (decide (d = c)) = some k := e
        exact op_is_bl pins s σ H x y v u Q I rx ry ⟨d, c, ra, rb, by rw [Option.some.inj e]; exact q⟩
      | _ => cases e
    | _ => cases a <;> cases e
  | isn =>
    have e : (isT a b).map (!·) = some k := e
    cases w : isT a b with
    | none => rw [w] at e; cases e
    | some k' =>
      rw [w] at e
      have ek : (!k') = k := Option.some.inj e
      cases b with
      | non =>
        have w : isNoneB a = some k' := by cases a <;> exact w
        exact op_notN pins s σ H x y v u Q I rx ry ⟨rb, by rw [isNone_rep ra w, ek]; exact q⟩
      | bl c => cases a with
        | bl d =>
          have w : some (decide (d = c)) = some k' := w
          exact op_isnot_bl pins s σ H x y v u Q I rx ry ⟨d, c, ra, rb, by rw [Option.some.inj w, ek]; exact q⟩
        | _ => cases w
      | _ => cases a <;> cases w
  | in_ =>
    have e : inT a b = some k := e
    obtain ⟨d, ds, e1, s1, e3, z⟩ := inT_some e
    have ha := ra.dp e1
    rw [← hK] at ha
    obtain ⟨as, g1⟩ := Dp.reads I d x v ha rx
    rcases z with ⟨ys, rfl, e2, s2⟩ | ⟨ys, rfl, e2, s2⟩
    · obtain ⟨p, zs, rfl, hq, rr⟩ := rb
      have hb : Dp X.K H (.ref p) (.tuple ds) := by rw [hK]; exact .tup hq (rr.dp e2)
      obtain ⟨bs, g2⟩ := Dp.reads I (.tuple ds) _ u hb ry
      exact SeqAt.in_tuple_reads g2 g1 (SeqAt.canLay_of_shaped s2) (SeqAt.canLay_of_shaped s1) (room_in_shaped s1 hu) ⟨.bl _, H, I, rfl, by rw [e3]; exact q⟩
    · obtain ⟨p, zs, rfl, _, hq, rr⟩ := rb
      have hb : Dp X.K H (.ref p) (.list ds) := .lst (.inl (.inl hq)) (by rw [hK]; exact rr.dp e2)
      obtain ⟨bs, g2⟩ := Dp.reads I (.list ds) _ u hb ry
      exact SeqAt.in_list_reads g2 g1 (SeqAt.canLay_of_shaped s2) (SeqAt.canLay_of_shaped s1) (room_in_shaped s1 hu) ⟨.bl _, H, I, rfl, by rw [e3]; exact q⟩
  | nin =>
    have e : (inT a b).map (!·) = some k := e
    cases w : inT a b with
    | none => rw [w] at e; cases e
    | some k' =>
      rw [w] at e
      have ek : (!k') = k := Option.some.inj e
      obtain ⟨d, ds, e1, s1, e3, z⟩ := inT_some w
      have ha := ra.dp e1
      rw [← hK] at ha
      obtain ⟨as, g1⟩ := Dp.reads I d x v ha rx
      rcases z with ⟨ys, rfl, e2, s2⟩ | ⟨ys, rfl, e2, s2⟩
      · obtain ⟨p, zs, rfl, hq, rr⟩ := rb
        have hb : Dp X.K H (.ref p) (.tuple ds) := by rw [hK]; exact .tup hq (rr.dp e2)
        obtain ⟨bs, g2⟩ := Dp.reads I (.tuple ds) _ u hb ry
        exact SeqAt.notIn_tuple_reads g2 g1 (SeqAt.canLay_of_shaped s2) (SeqAt.canLay_of_shaped s1) (room_in_shaped s1 hu) ⟨.bl _, H, I, rfl, by rw [e3, ek]; exact q⟩
      · obtain ⟨p, zs, rfl, _, hq, rr⟩ := rb
        have hb : Dp X.K H (.ref p) (.list ds) := .lst (.inl (.inl hq)) (by rw [hK]; exact rr.dp e2)
        obtain ⟨bs, g2⟩ := Dp.reads I (.list ds) _ u hb ry
        exact SeqAt.notIn_list_reads g2 g1 (SeqAt.canLay_of_shaped s2) (SeqAt.canLay_of_shaped s1) (room_in_shaped s1 hu) ⟨.bl _, H, I, rfl, by rw [e3, ek]; exact q⟩

/-! ### subscripts -/
omit hK in
theorem atI_rep {L : Al} {ρ : Ro} {H : Hp} {xs : List T} {ys : List V} {i : Int} {t : T} (r : Reps N L ρ H xs ys) (e : L2.atI xs i = some t) : ∃ v, L2.atI ys i = some v ∧ Rep N L ρ H t v := by
  unfold L2.atI at e ⊢
  rw [← r.length]
  cases w : L2.ixN xs.length i with
  | none => rw [w] at e; cases e
  | some j => rw [w] at e; exact r.get e
theorem ok_idx : IxR X (r2 N idxT) := by
  intro value slice pins s σ H x y v u Q I rx ry ⟨W, L, ρ, h, a, b, S, ra, rb, o⟩ hs
  have fin : ∀ {p : Addr} {ys : List V} {xs : List T} {i : Int}, x = .ref p → y = .int i → (SqL N.K H p ys ∨ SqT N.K H p ys) → Reps N L ρ H xs ys → Out N (RT N) W L ρ H (atT xs i h) Q → wpAny (model X.prog X.w) X.A (subscriptTail value slice v u) (EP X pins σ Q) X.xe s := by
    intro p ys xs i ex ey hq rr o
    obtain ⟨t, e, o⟩ := o.ofO
    obtain ⟨z, e1, rz⟩ := atI_rep rr e
    have q := o.ret S rz
    rcases hq with hq | hq
    · exact ix_list value slice pins s σ H x y v u Q I rx ry ⟨p, ys, i, z, ex, ey, by rw [hK]; exact hq, e1, q⟩ hs
    · exact ix_tup value slice pins s σ H x y v u Q I rx ry ⟨p, ys, i, z, ex, ey, by rw [hK]; exact hq, e1, q⟩ hs
  cases b with
  | int i => cases a with
    | tup xs => obtain ⟨p, ys, e1, hq, rr⟩ := ra; exact fin e1 rb (.inr hq) rr o
    | lst xs => obtain ⟨p, ys, e1, _, hq, rr⟩ := ra; exact fin e1 rb (.inl (.inl (.inl hq))) rr o
    | scr ns =>
      obtain ⟨p, e1, hq⟩ := ra
      obtain ⟨k, e, o⟩ := o.bndO
      refine fin (xs := ns.map .int) e1 rb (.inl hq.sq) Reps.ints ?_
      have e2 : L2.atI (ns.map T.int) i = some (.int k) := by
        unfold L2.atI at e ⊢
        rw [List.length_map]
        cases w : L2.ixN ns.length i with
        | none => rw [w] at e; cases e
        | some j =>
          rw [w] at e
          show (ns.map T.int)[j]? = _
          rw [List.getElem?_map, (show ns[j]? = some k from e)]
          rfl
      unfold atT
      rw [e2]
      exact o
    | ref n =>
      obtain ⟨p, e1, hq⟩ := ra
      obtain ⟨w, e2, o⟩ := o.getO
      cases w with
      | lst xs => obtain ⟨ys, hl, rr⟩ := S.lst e2 hq; exact fin e1 rb (.inl (.inl (.inl hl))) rr o
      | _ => exact o.no.elim
    | _ => exact o.no.elim
  | _ => cases a <;> exact o.no.elim
omit hK in
theorem cut_rep {L : Al} {ρ : Ro} {H : Hp} {xs : List T} {ys : List V} (lo hi : Option Int) (r : Reps N L ρ H xs ys) : Reps N L ρ H (cut xs lo hi) (L2.cutV ys lo hi) := by
  unfold cut L2.cutV
  rw [r.length]
  exact (r.drop _).take _
omit hK in
theorem cut_map {α β : Type} (f : α → β) (xs : List α) (lo hi : Option Int) : cut (xs.map f) lo hi = (cut xs lo hi).map f := by
  unfold cut
  rw [List.length_map, List.map_take, List.map_drop]
def rSlc (N : Nm) (m : Bool) : V → Option Int → Option Int → Hp → VK → Prop := fun x lo hi H Q => ∃ W L ρ h a, StoOk N L ρ H h ∧ Rep N L ρ H a x ∧ Out N (RT N) W L ρ H (slcT m lo hi a h) Q
theorem ok_slc {m : Bool} : SlR X (rSlc N m) := by
  intro pins s σ H x v vl vu lo hi sl Q I rx hs pl pu ⟨W, L, ρ, h, a, S, ra, o⟩
  cases a with
  | tup xs =>
    have ra' := ra
    obtain ⟨p, ys, e1, hq, rr⟩ := ra
    have hl := rr.length
    refine sl_tupA pins s σ H x v vl vu lo hi sl Q I rx hs pl pu ⟨p, ys, e1, by rw [hK]; exact hq, fun w => ?_, fun _ => o.tup S (cut_rep lo hi rr)⟩
    have ec : cut xs lo hi = xs := by
      unfold cut
      rw [hl, w.1, w.2]
      simp [← hl]
    have o' : Out N (RT N) W L ρ H (Mt.ret (.tup (cut xs lo hi)) h) Q := o
    rw [ec] at o'
    have q := o'.ret S (b := x) ra'
    rw [e1] at q
    exact q
  | lst xs =>
    obtain ⟨p, ys, e1, _, hq, rr⟩ := ra
    exact sl_list pins s σ H x v vl vu lo hi sl Q I rx hs pl pu ⟨p, ys, e1, .inl (.inl hq), o.mkL S (cut_rep lo hi rr)⟩
  | scr ns =>
    obtain ⟨p, e1, hq⟩ := ra
    have rr : Reps N L ρ H (cut (ns.map T.int) lo hi) (L2.cutV (ns.map V.int) lo hi) := cut_rep lo hi Reps.ints
    rw [cut_map] at rr
    exact sl_list pins s σ H x v vl vu lo hi sl Q I rx hs pl pu ⟨p, _, e1, by rw [hK]; exact hq.sq, o.mkL S rr⟩
  | ref n =>
    obtain ⟨p, e1, hq⟩ := ra
    obtain ⟨w, e2, o⟩ := o.getO
    cases w with
    | lst xs =>
      obtain ⟨ys, hl, rr⟩ := S.lst e2 hq
      exact sl_list pins s σ H x v vl vu lo hi sl Q I rx hs pl pu ⟨p, ys, e1, .inl (.inl hl), o.mkL S (cut_rep lo hi rr)⟩
    | _ => exact o.no.elim
  | _ => exact o.no.elim
end
end Mt

set_option maxHeartbeats 8000000
/-! Mt5: fields, classes, built-in functions, methods of lists. -/
namespace Mt
open PySem PySem.Spec PyProof.Rows L2
section
variable {N : Nm} {X : Cx} (hK : X.K = N.K)
theorem vals_zip {fs : List Nat} : ∀ {ys : List V} {f : Nat} {y : V}, (∀ i j, N.fnm i = N.fnm j → i = j) → fs.length = ys.length → (((fs.map N.fnm).zip ys).lookup (N.fnm f) = some y ↔ ∃ k, fs.idxOf f = k ∧ k < fs.length ∧ ys[k]? = some y) := by
  induction fs with
  | nil => intro ys f y _ hl; simp
  | cons g gs ih =>
    intro ys f y hj hl
    cases ys with
    | nil => cases hl
    | cons z zs =>
      have hl' : gs.length = zs.length := by simpa using hl
      rw [List.map_cons, List.zip_cons_cons, List.lookup_cons]
      by_cases e : f = g
      · subst e
        simp
      · have ne : (N.fnm f == N.fnm g) = false := beq_eq_false_iff_ne.mpr fun q => e (hj _ _ q)
        have ne2 : (g == f) = false := beq_eq_false_iff_ne.mpr fun q => e q.symm
        rw [ne, List.idxOf_cons, ne2]
        show ((gs.map N.fnm).zip zs).lookup (N.fnm f) = some y ↔ _
        rw [ih hj hl']
        constructor
        · rintro ⟨k, h1, h2, h3⟩
          exact ⟨k + 1, by simp [h1], by simpa using h2, by simpa using h3⟩
        · rintro ⟨k, h1, h2, h3⟩
          have h1' : gs.idxOf f + 1 = k := by simpa using h1
          subst h1'
          exact ⟨_, rfl, by simpa using h2, by simpa using h3⟩
theorem fldV_rep {L : Al} {ρ : Ro} {H : Hp} {f : Nat} : ∀ {fs : List Nat} {vs : List T} {ys : List V} {t : T}, Reps N L ρ H vs ys → fs.length = ys.length → fldV f fs vs = some t → ∃ y, ((fs.map N.fnm).zip ys).lookup (N.fnm f) = some y ∧ Rep N L ρ H t y
  | [], _, _, _, _, _, e => by simp [fldV] at e
  | g :: gs, [], _, _, _, _, e => by simp [fldV] at e
  | g :: gs, v :: vs, _, t, ⟨y, zs, e1, r, q⟩, hl, e => by
    subst e1
    have e' : (if f = g then some v else fldV f gs vs) = some t := e
    rw [List.map_cons, List.zip_cons_cons, List.lookup_cons]
    by_cases ef : f = g
    · subst ef
      rw [if_pos rfl] at e'
      cases e'
      exact ⟨y, by simp, r⟩
    · rw [if_neg ef] at e'
      have ne : (N.fnm f == N.fnm g) = false := beq_eq_false_iff_ne.mpr fun q => ef (N.fnj _ _ q)
      rw [ne]
      exact fldV_rep q (by simpa using hl) e'
/-- a field of an object -/
theorem fld_rep {W : XK} {L : Al} {ρ : Ro} {H : Hp} {h : Sto} {f : Nat} {a : T} {x : V} {Q : VK} (S : StoOk N L ρ H h) (ra : Rep N L ρ H a x) (o : Out N (RT N) W L ρ H (fldT f a h) Q) :
    ∃ p c dx gs y, x = .ref p ∧ H p = some (.ins (N.cadr c) dx gs) ∧ N.ki c ∧ gs.lookup (N.fnm f) = some y ∧ Q y H := by
  have fin : ∀ {p : Addr} {c : Nat} {fs : List Nat} {vs : List T} {ys : List V}, x = .ref p → InsV N H p c fs ys → Reps N L ρ H vs ys → Out N (RT N) W L ρ H (ofO (fldV f fs vs) h) Q → ∃ p c dx gs y, x = .ref p ∧ H p = some (.ins (N.cadr c) dx gs) ∧ N.ki c ∧ gs.lookup (N.fnm f) = some y ∧ Q y H := by
    intro p c fs vs ys ex ⟨dx, e1, e2, hl, kc⟩ rr o
    obtain ⟨t, e, o⟩ := o.ofO
    obtain ⟨y, l, r⟩ := fldV_rep rr hl e
    exact ⟨p, c, dx, _, y, ex, e1, kc, l, o.ret S r⟩
  cases a with
  | obj c fs vs => obtain ⟨p, ys, e1, _, hi, rr⟩ := ra; exact fin e1 hi rr o
  | ref n =>
    obtain ⟨p, e1, hq⟩ := ra
    obtain ⟨w, e2, o⟩ := o.getO
    cases w with
    | ins c fs vs =>
      obtain ⟨b, e3, ys, hi, rr⟩ := S.obj n _ e2
      rw [hq] at e3; cases e3
      exact fin e1 hi rr o
    | _ => exact o.no.elim
  | _ => exact o.no.elim
def kdV (N : Nm) : Kd → Value
  | .non => .type "NoneType"
  | .bool => .type "bool"
  | .int => .type "int"
  | .str => .type "str"
  | .tup => .type "tuple"
  | .lst => .type "list"
  | .dct => .type "dict"
  | .byt => .type "bytes"
  | .own c => .ref (N.cadr c)
def tyV (N : Nm) : Ty → V
  | .int => .ty "int"
  | .bool => .ty "bool"
  | .str => .ty "str"
  | .tup => .ty "tuple"
  | .lst => .ty "list"
  | .dct => .ty "dict"
  | .byt => .ty "bytes"
  | .cls c => .ref (N.cadr c)
def tyU (N : Nm) : Ty → Value
  | .int => .type "int"
  | .bool => .type "bool"
  | .str => .type "str"
  | .tup => .type "tuple"
  | .lst => .type "list"
  | .dct => .type "dict"
  | .byt => .type "bytes"
  | .cls c => .ref (N.cadr c)
def tyOk (N : Nm) : Ty → Prop
  | .cls c => N.kc c
  | _ => True
theorem ty_cls (t : Ty) : ClsV (tyV N t) (tyU N t) := by
  cases t <;> constructor
theorem dicV_ty {H : Hp} {a : Addr} {ks : List T} {ys : List V} (d : DicV H a ks ys) : TyX N.K H (.ref a) (.type "dict") := by
  rcases d with ⟨kk, _, _, e⟩ | ⟨kk, _, _, e⟩
  · exact .base (.dK e)
  · exact .base (.dT e)
theorem insV_ty {H : Hp} {a : Addr} {c : Nat} {fs : List Nat} {ys : List V} (d : InsV N H a c fs ys) : TyX N.K H (.ref a) (.ref (N.cadr c)) := by
  obtain ⟨dx, e, _, _, k⟩ := d
  obtain ⟨h1, h2, h3, h4, _⟩ := N.insK c k
  exact .base (.ins e h1 h2 h3 h4 (N.objK c k))
theorem sqT_ty {H : Hp} {a : Addr} {ys : List V} (d : SqT N.K H a ys) : TyX N.K H (.ref a) (.type "tuple") := by
  rcases d with (e | ⟨o, e⟩) | ⟨o, its, n, e, c, _⟩
  · exact .base (.tup e)
  · exact .fTuple e
  · exact .kTuple e c
/-- a value's class, as the machine has it -/
theorem kd_rep {α β : Type} {rl : Rl α β} {W : XK} {L : Al} {ρ : Ro} {H : Hp} {h : Sto} {a : T} {x : V} {f : Kd → M α} {Q : β → Hp → Prop} (S : StoOk N L ρ H h) (ra : Rep N L ρ H a x) (o : Out N rl W L ρ H (Mt.bnd (kdT a) f h) Q) :
    ∃ k, TyX N.K H x (kdV N k) ∧ (∀ c, k = .own c → N.ki c) ∧ Out N rl W L ρ H (f k h) Q := by
  have nk : ∀ {k : Kd}, (∀ c, k ≠ .own c) → ∀ c, k = .own c → N.ki c := fun h c e => (h c e).elim
  cases a with
  | non => cases ra; exact ⟨.non, .base .non, nk (by intro c e; cases e), o⟩
  | bl b => cases ra; exact ⟨.bool, .base (.bl b), nk (by intro c e; cases e), o⟩
  | int i => cases ra; exact ⟨.int, .base (.int i), nk (by intro c e; cases e), o⟩
  | str z => cases ra; exact ⟨.str, .base (.str z), nk (by intro c e; cases e), o⟩
  | byt z => cases ra; exact ⟨.byt, .byt z, nk (by intro c e; cases e), o⟩
  | tup xs => obtain ⟨p, ys, rfl, hq, _⟩ := ra; exact ⟨.tup, sqT_ty hq, nk (by intro c e; cases e), o⟩
  | lst xs => obtain ⟨p, ys, rfl, _, hq, _⟩ := ra; exact ⟨.lst, .base (.lst hq), nk (by intro c e; cases e), o⟩
  | scr xs => obtain ⟨p, rfl, hq⟩ := ra; exact ⟨.lst, hq.ty, nk (by intro c e; cases e), o⟩
  | dic ks vs => obtain ⟨p, ys, rfl, _, hq, _⟩ := ra; exact ⟨.dct, dicV_ty hq, nk (by intro c e; cases e), o⟩
  | obj c fs vs => obtain ⟨p, ys, rfl, _, hq, _⟩ := ra; exact ⟨.own c, insV_ty hq, (by intro d e; cases e; exact hq.choose_spec.2.2.2), o⟩
  | ref n =>
    obtain ⟨p, rfl, hq⟩ := ra
    have o' : Out N rl W L ρ H (Mt.bnd (Mt.getO n) (fun u => Mt.bnd (match u with
      | O.lst _ => Mt.ret Kd.lst
      | O.dic _ _ => Mt.ret Kd.dct
      | O.ins c _ _ => Mt.ret (Kd.own c)) f) h) Q := by
      rw [← bnd_assoc]; exact o
    obtain ⟨u, w, o2⟩ := o'.getO
    obtain ⟨b, e3, ro⟩ := S.obj n _ w
    rw [hq] at e3; cases e3
    cases u with
    | lst xs => obtain ⟨ys, hl, _⟩ := ro; exact ⟨.lst, .base (.lst hl), nk (by intro c e; cases e), o2⟩
    | dic ks vs => obtain ⟨ys, hl, _⟩ := ro; exact ⟨.dct, dicV_ty hl, nk (by intro c e; cases e), o2⟩
    | ins c fs vs => obtain ⟨ys, hl, _⟩ := ro; exact ⟨.own c, insV_ty hl, (by intro d e; cases e; exact hl.choose_spec.2.2.2), o2⟩
theorem kit_kd {k : Kd} {t : Ty} (hk : ∀ c, k = .own c → N.ki c) (ht : tyOk N t) : PySem.W.kitOne N.K (kdV N k) (tyU N t) = some (kdTy k t) := by
  cases t with
  | cls d =>
    cases k with
    | own c =>
      by_cases e : c = d
      · subst e
        show (if (Value.ref (N.cadr c) == Value.ref (N.cadr c)) = true then some true else _) = some (decide (c = c))
        rw [if_pos (beq_self_eq_true _), decide_eq_true rfl]
      · have := N.mroK c d (hk c rfl) ht e
        rw [show kdTy (.own c) (.cls d) = false from decide_eq_false e]
        exact this
    | _ =>
      obtain ⟨h1, h2⟩ := N.clsK d ht
      refine (if_neg (by intro z; simp [kdV, tyU] at z)).trans ?_
      show (if ((PySem.W.clsIn N.K (N.cadr d)).isSome && PySem.W.typeIn N.K (Value.ref (N.cadr d)) == some (Value.type "type")) = true then PySem.W.subIn N.K _ (Value.ref (N.cadr d)) else none) = some false
      rw [if_pos (by rw [h1, h2]; rfl)]
      rfl
  | _ =>
    cases k with
    | own c =>
      have := (N.insK c (hk c rfl)).2.2.2.2
      exact this _ (by decide)
    | _ => rfl
theorem ok_isi {t : Ty} (ht : tyOk N t) : ∀ (pins : List (Addr × Obj)) (s : Shared) (σ : L2.St) (H : Hp) (x : V) (v : Value) (Q : VK), Inv X pins σ H s → RelV x v → X.K = N.K → r1 N (isiM t) x H Q →
    wpAny (model X.prog X.w) X.A (call (.builtin "isinstance") [v, tyU N t]) (EP X pins σ Q) X.xe s := by
  intro pins s σ H x v Q I rx hK ⟨W, L, ρ, h, a, S, ra, o⟩
  obtain ⟨k, ty, hk, o⟩ := kd_rep S ra o
  have hr : RelV (tyV N t) (tyU N t) := by cases t <;> rfl
  refine call_isi pins s σ H [x, tyV N t] _ Q I (.cons rx (.cons hr .nil)) ⟨x, tyV N t, kdV N k, tyU N t, kdTy k t, rfl, ty_cls t, by rw [hK]; exact ty, by rw [hK]; exact kit_kd hk ht, o.ret S (show Rep N L ρ H (.bl _) (.bl _) from rfl)⟩
include hK
/-! ### built-ins -/
def primV : Prim → Value
  | .len => .builtin "len"
  | .tuple => .type "tuple"
  | .list => .type "list"
  | .sorted => .builtin "sorted"
  | .min2 => .builtin "min"
  | .max2 => .builtin "max"
  | .minL => .builtin "min"
  | .maxL => .builtin "max"
  | .sum => .builtin "sum"
  | .all => .builtin "all"
  | .any => .builtin "any"
  | .int => .type "int"
  | .str => .type "str"
  | .repr => .builtin "repr"
  | .abs => .builtin "abs"
  | .divmod => .builtin "divmod"
  | .dict => .type "dict"
  | .set => .type "set"
  | .bool => .type "bool"
  | .bytes => .type "bytes"
theorem lenT_rep {W : XK} {L : Al} {ρ : Ro} {H : Hp} {h : Sto} {a : T} {x : V} {Q : VK} (S : StoOk N L ρ H h) (ra : Rep N L ρ H a x) (o : Out N (RT N) W L ρ H (primT .len false [a] h) Q) : ∃ n, LenV X.K x H n ∧ Q (.int (n : Nat)) H := by
  have o : Out N (RT N) W L ρ H (Mt.bnd (lenT a) (fun n => Mt.ret (.int (n : Nat))) h) Q := o
  have fin : ∀ {n : Nat}, LenV X.K x H n → Out N (RT N) W L ρ H (Mt.ret (.int (n : Nat)) h) Q → ∃ n, LenV X.K x H n ∧ Q (.int (n : Nat)) H := fun {n} l o => ⟨n, l, o.ret S (show Rep N L ρ H (.int _) (.int _) from rfl)⟩
  cases a with
  | str z =>
    cases ra
    have o : Out N (RT N) W L ρ H (Mt.bnd (if z.length ≤ sizeLine then Mt.ret z.length else Mt.no) (fun n => Mt.ret (.int (n : Nat))) h) Q := o
    rw [bnd_ite] at o
    obtain ⟨c, o⟩ := o.iteN
    exact fin ⟨c, rfl⟩ o
  | tup xs => obtain ⟨p, ys, rfl, hq, rr⟩ := ra; exact fin (.inr ⟨ys, by rw [hK]; exact hq, rr.length⟩) o
  | lst xs => obtain ⟨p, ys, rfl, _, hq, rr⟩ := ra; exact fin (.inl ⟨ys, .inl (.inl hq), rr.length⟩) o
  | scr xs => obtain ⟨p, rfl, hq⟩ := ra; exact fin (.inl ⟨_, by rw [hK]; exact hq.sq, by rw [List.length_map]⟩) o
  | ref n =>
    obtain ⟨p, rfl, hq⟩ := ra
    have o' : Out N (RT N) W L ρ H (Mt.bnd (Mt.getO n) (fun u => Mt.bnd (match u with
      | O.lst xs => Mt.ret xs.length
      | _ => Mt.no) (fun n => Mt.ret (.int (n : Nat)))) h) Q := by
      rw [← bnd_assoc]; exact o
    obtain ⟨u, w, o2⟩ := o'.getO
    cases u with
    | lst xs => obtain ⟨ys, hl, rr⟩ := S.lst w hq; exact fin (.inl ⟨ys, .inl (.inl hl), rr.length⟩) o2
    | _ => exact o2.no.elim
  | _ => exact o.no.elim
theorem isort_perm (xs : List Int) : (isort xs).Perm xs := ssort_perm _ _
theorem isort_eq {xs ys : List Int} (p : ys.Perm xs) (s : ys.Pairwise (· ≤ ·)) : ys = isort xs := by
  have s2 : (isort xs).Pairwise (· ≤ ·) := by
    have := ssort_srtd (le := fun a b : Int => decide (a ≤ b)) (by intro a b c h1 h2; simp at *; omega) (by intro a b; simp; omega) xs
    exact this.imp (by intro a b h; simpa using h)
  exact (p.trans (isort_perm hK xs).symm).eq_of_pairwise (fun a b _ _ h1 h2 => Int.le_antisymm h1 h2) s s2
theorem tsort_eq (xs : List T) : tsort xs = xs.mergeSort (PySem.W.dataLe false pyD) := ssort_eq (dataLe_tr pyD) (dataLe_to pyD) xs
omit hK in
theorem each_rep {L : Al} {ρ : Ro} {H : Hp} : ∀ {zs : List T} {ys : List V} {its : List Value}, Reps N L ρ H zs ys → Vals ys its → PySem.W.EachIs (fun u t => ∃ v, RelV v u ∧ Rep N L ρ H t v) its zs
  | [], _, _, r, v => by cases r; cases v; exact .nil
  | z :: zs, _, _, r, v => by
    obtain ⟨y, ys, rfl, r1, r2⟩ := r
    cases v with
    | cons v1 v2 => exact .cons ⟨y, v1, r1⟩ (each_rep r2 v2)
omit hK in
theorem each_back {L : Al} {ρ : Ro} {H : Hp} : ∀ {zs : List T} {out : List Value}, PySem.W.EachIs (fun u t => ∃ v, RelV v u ∧ Rep N L ρ H t v) out zs → ∃ ys, Vals ys out ∧ Reps N L ρ H zs ys
  | _, _, .nil => ⟨[], .nil, rfl⟩
  | _, _, .cons ⟨v, h1, h2⟩ r => by
    obtain ⟨ys, q1, q2⟩ := each_back r
    exact ⟨v :: ys, .cons h1 q1, v, ys, rfl, h2, q2⟩
theorem sortD (hu : X.A.units + 65 < cLine) {pins : List (Addr × Obj)} {s : Shared} {σ : L2.St} {L : Al} {ρ : Ro} {H : Hp} {p : Addr} {zs : List T} {ys : List V} {Q : VK} (c : sortOk zs = true) (I : Inv X pins σ H s) (hq : SqL X.K H p ys) (rr : Reps N L ρ H zs ys)
    (q : ∀ out a, Reps N L ρ H (tsort zs) out → H a = none → Q (.ref a) (upd H a (.lst out))) : wpAny (model X.prog X.w) X.A (call (.builtin "sorted") [.ref p]) (EP X pins σ Q) X.xe s := by
  obtain ⟨its, rv, hl, hz⟩ := I.list hq
  unfold sortOk at c
  simp only [Bool.and_eq_true, List.all_eq_true, Bool.or_eq_true, decide_eq_true_eq] at c
  obtain ⟨c1, c2, c3⟩ := c
  have e := each_rep rr rv
  have len : zs.length ≤ sizeLine := by rw [rr.length]; exact hz
  refine PySem.W.sorted_data (enc := pyD) hl.isList e ((PySem.W.each_mem e).mono fun u t hh => ?_) (fun d hd d' hd' => ?_) ?_ len (fun b hb => ?_) fun out ho eo => ?_
  · obtain ⟨⟨v, h1, h2⟩, ht⟩ := hh
    have ht := (c1 t ht).1
    cases w : t.py with
    | none => rw [w] at ht; cases ht
    | some d =>
      have e1 : pyD t = d := by unfold pyD; rw [w]; rfl
      rw [e1]
      have hd := h2.dp w
      rw [← hK] at hd
      exact Dp.reads I d v u hd h1
  · obtain ⟨x, hx, rfl⟩ := List.mem_map.mp hd
    obtain ⟨y, hy, rfl⟩ := List.mem_map.mp hd'
    exact c2 x hx y hy
  · rcases c3 with c3 | c3
    · refine .inl fun d hd => ?_
      obtain ⟨x, hx, rfl⟩ := List.mem_map.mp hd
      have := c3 x hx
      revert this
      cases pyD x with
      | tuple xs => cases xs with
        | nil => intro h; cases h
        | cons y r => intro _; exact ⟨y, r, rfl⟩
      | _ => intro h; cases h
    · refine .inr fun d hd => ?_
      obtain ⟨x, hx, rfl⟩ := List.mem_map.mp hd
      have := c3 x hx
      revert this
      cases pyD x with
      | tuple xs => intro h; cases h
      | none => intro h; cases h
      | _ => exact fun _ => ⟨fun h => (by cases h), fun _ h => (by cases h)⟩
  · have := (c1 b hb).2
    omega
  · rw [← tsort_eq hK] at eo
    obtain ⟨os, q1, q2⟩ := each_back eo
    obtain ⟨ep, he'⟩ := PyProof.Rows.sortedAll_at s.heap its out.toArray
    have hlen : os.length ≤ sizeLine := by
      rw [q1.length, ho]
      exact len
    exact ⟨.ref _, upd H (s.heap.objs.size + 1) (.lst os), I.laid (t' := s.toks) (fun _ _ => PyProof.Rows.sortedAll_old) (Nat.le_succ _) ⟨hlen, out, ep, q1, he'⟩, rfl, q _ _ q2 (I.hok.fresh (Nat.le_succ _))⟩
omit hK in
theorem two_ints {f : Int → Int → M T} {g : List T → M T} {W : XK} {L : Al} {ρ : Ro} {H : Hp} {h : Sto} {as : List T} {Q : VK} (o : Out N (RT N) W L ρ H (g as h) Q) (he : ∀ a b, g [a, b] = match a, b with
    | .int i, .int j => f i j
    | _, _ => no) (h0 : g [] = no) (h1 : ∀ a, g [a] = no) (h3 : ∀ a b c r, g (a :: b :: c :: r) = no) : ∃ i j, as = [.int i, .int j] ∧ Out N (RT N) W L ρ H (f i j h) Q := by
  match as, o with
  | [], o => rw [h0] at o; exact o.no.elim
  | [a], o => rw [h1] at o; exact o.no.elim
  | a :: b :: c :: r, o => rw [h3] at o; exact o.no.elim
  | [a, b], o =>
    rw [he] at o
    cases a with
    | int i => cases b with
      | int j => exact ⟨i, j, rfl, o⟩
      | _ => exact o.no.elim
    | _ => exact o.no.elim
theorem ok_repr (hu : X.A.units + 65 < cLine) (hg : X.A.guards = some []) : ∀ (pins : List (Addr × Obj)) (s : Shared) (σ : L2.St) (H : Hp) (x : V) (us : List Value) (Q : VK), Inv X pins σ H s → Vals [x] us → r1 N reprT x H Q →
    wpAny (model X.prog X.w) X.A (call (.builtin "repr") us) (EP X pins σ Q) X.xe s := by
  intro pins s σ H x us Q I rx ⟨W, L, ρ, h, a, S, ra, o⟩
  obtain ⟨u, rfl, ru⟩ := vals1 rx
  unfold reprT at o
  cases e : a.py with
  | none => rw [e] at o; exact o.no.elim
  | some d =>
    rw [e] at o
    have o : Out N (RT N) W L ρ H ((if (d.showable && (!d.hasDict && (SeqAt.shaped d && decide (d.shown.length ≤ sizeLine)))) = true then Mt.ret (.str d.shown) else Mt.no) h) Q := o
    obtain ⟨c, o⟩ := o.iteN
    simp only [Bool.and_eq_true, Bool.not_eq_true', decide_eq_true_eq] at c
    obtain ⟨c1, c2, c3, c4⟩ := c
    have q : Q (.str d.shown) H := o.ret S (show Rep N L ρ H (.str _) (.str _) from rfl)
    have hd := ra.dp e
    rw [← hK] at hd
    obtain ⟨as, g⟩ := Dp.reads I d x u hd ru
    have dep := SeqAt.depth_of_shaped c3
    have byRef : ∀ p, x = .ref p → wpAny (model X.prog X.w) X.A (call (.builtin "repr") [u]) (EP X pins σ Q) X.xe s := fun p ep => by
      subst ep
      cases ru
      exact repr_of_reads' g c1 (fun z => by rw [c2] at z; cases z) hg (by omega) (fun _ _ z => z) (fun h' u tk hk => ⟨.str d.shown, H, I.kept (t' := tk) hk, ⟨_, rfl⟩, q⟩) c4
    cases a with
    | non => cases ra; cases ru; cases e; exact PySem.P.repr_of_none ⟨.str _, H, I.tok _, ⟨_, rfl⟩, q⟩
    | bl b => cases ra; cases ru; cases e; exact PySem.P.repr_of_bool ⟨.str _, H, I.tok _, ⟨_, rfl⟩, q⟩
    | int i =>
      cases ra; obtain ⟨t, rfl⟩ := ru; cases e
      exact PySem.P.repr_of_int (of_decide_eq_true c1) ⟨.str _, H, I.tok _, ⟨_, rfl⟩, q⟩
    | str z =>
      cases ra; obtain ⟨t, rfl⟩ := ru; cases e
      exact PySem.P.repr_of_str ⟨.str _, H, I.tok _, ⟨_, rfl⟩, q⟩ c4
    | tup xs => obtain ⟨p, ys, rfl, _⟩ := ra; exact byRef p rfl
    | lst xs => obtain ⟨p, ys, rfl, _⟩ := ra; exact byRef p rfl
    | _ => cases e
theorem ok_prim (hc : X.calm = true) (hu : X.A.units + 65 < cLine) (hg : X.A.guards = some []) {m : Bool} : ∀ p : Prim, CallR X (primV p) (rN N (primT p m)) := by
  intro p pins s σ H xs us Q I rx ⟨W, L, ρ, h, as, S, ra, o⟩
  cases p with
  | len => match as, ra, o with
    | [a], ra, o =>
      obtain ⟨x, rfl, r⟩ := Reps.one hK ra
      obtain ⟨n, l, q⟩ := lenT_rep hK S r o
      exact call_len pins s σ H [x] us Q I rx ⟨x, n, rfl, l, q⟩
    | [], _, o => exact o.no.elim
    | _ :: _ :: _, _, o => exact o.no.elim
  | tuple => match as, ra, o with
    | [a], ra, o =>
      obtain ⟨x, rfl, r⟩ := Reps.one hK ra
      obtain ⟨p, zs, ys, rfl, hq, rr, ei, o⟩ := Out.items S r o
      rcases hq with hq | hq
      · exact call_tuple_of pins s σ H _ us Q I rx ⟨p, ys, rfl, .inl ⟨by rw [hK]; exact hq, o.tup S rr⟩⟩
      · exact call_tuple_of pins s σ H _ us Q I rx ⟨p, ys, rfl, .inr ⟨by rw [hK]; exact hq, o.ret S (show Rep N L ρ H (.tup zs) (.ref p) from ⟨p, ys, rfl, hq, rr⟩)⟩⟩
    | [], _, o => exact o.no.elim
    | _ :: _ :: _, _, o => exact o.no.elim
  | list => match as, ra, o with
    | [a], ra, o =>
      obtain ⟨x, rfl, r⟩ := Reps.one hK ra
      obtain ⟨p, zs, ys, rfl, hq, rr, ei, o⟩ := Out.items S r o
      exact call_list_of pins s σ H _ us Q I rx ⟨p, ys, rfl, by rw [hK]; exact hq, o.mkL S rr⟩
    | [], _, o => exact o.no.elim
    | _ :: _ :: _, _, o => exact o.no.elim
  | sorted => match as, ra, o with
    | [a], ra, o =>
      obtain ⟨x, rfl, r⟩ := Reps.one hK ra
      obtain ⟨p, zs, ys, rfl, hq, rr, o⟩ := Out.lists S r o
      unfold sortT at o
      cases e : intsT zs with
      | some is =>
        rw [e] at o
        have ey := Reps.of_ints e rr
        subst ey
        refine cr_sortedI pins s σ H _ us Q I rx ⟨p, is, rfl, by rw [hK]; exact hq, fun ns' q hp hs hn => ?_⟩
        rw [isort_eq hK hp hs]
        exact Out.mkL o S Reps.ints q hn
      | none =>
        rw [e] at o
        have o : Out N (RT N) W L ρ H ((if sortOk zs = true then Mt.mkL m (tsort zs) else Mt.no) h) Q := o
        obtain ⟨c, o⟩ := o.iteN
        rw [Vals.ref1 rx]
        exact sortD hK hu c I (by rw [hK]; exact hq) rr fun out a ro hn => o.mkL S ro a hn
    | [], _, o => exact o.no.elim
    | _ :: _ :: _, _, o => exact o.no.elim
  | sum => match as, ra, o with
    | [a], ra, o =>
      obtain ⟨x, rfl, r⟩ := Reps.one hK ra
      obtain ⟨p, zs, ys, rfl, hq, rr, o⟩ := Out.lists S r o
      obtain ⟨is, e, o⟩ := o.bndO
      have ey := Reps.of_ints e rr
      subst ey
      exact cr_sum hc pins s σ H _ us Q I rx ⟨p, is, rfl, by rw [hK]; exact hq, o.ret S (show Rep N L ρ H (.int _) (.int _) from rfl)⟩
    | [], _, o => exact o.no.elim
    | _ :: _ :: _, _, o => exact o.no.elim
  | all => match as, ra, o with
    | [a], ra, o =>
      obtain ⟨x, rfl, r⟩ := Reps.one hK ra
      obtain ⟨p, zs, ys, rfl, hq, rr, o⟩ := Out.lists S r o
      obtain ⟨is, e, o⟩ := o.bndO
      have ey := Reps.of_bls e rr
      subst ey
      exact cr_all hc pins s σ H _ us Q I rx ⟨p, is, rfl, by rw [hK]; exact hq, o.ret S (show Rep N L ρ H (.bl _) (.bl _) from rfl)⟩
    | [], _, o => exact o.no.elim
    | _ :: _ :: _, _, o => exact o.no.elim
  | any => match as, ra, o with
    | [a], ra, o =>
      obtain ⟨x, rfl, r⟩ := Reps.one hK ra
      obtain ⟨p, zs, ys, rfl, hq, rr, o⟩ := Out.lists S r o
      obtain ⟨is, e, o⟩ := o.bndO
      have ey := Reps.of_bls e rr
      subst ey
      exact cr_any hc pins s σ H _ us Q I rx ⟨p, is, rfl, by rw [hK]; exact hq, o.ret S (show Rep N L ρ H (.bl _) (.bl _) from rfl)⟩
    | [], _, o => exact o.no.elim
    | _ :: _ :: _, _, o => exact o.no.elim
  | min2 =>
    obtain ⟨i, j, rfl, o⟩ := two_ints (f := fun i j => ret (.int (if j < i then j else i))) o (by intro a b; cases a <;> cases b <;> rfl) rfl (by intro a; cases a <;> rfl) (by intro a b c r; cases a <;> first | rfl | (cases b <;> rfl))
    obtain ⟨x, y, rfl, r, r'⟩ := Reps.two hK ra
    exact call_min2 hc pins s σ H _ us Q I rx ⟨i, j, by rw [(show x = .int i from r), (show y = .int j from r')], o.ret S (show Rep N L ρ H (.int _) (.int _) from rfl)⟩
  | max2 =>
    obtain ⟨i, j, rfl, o⟩ := two_ints (f := fun i j => ret (.int (if j > i then j else i))) o (by intro a b; cases a <;> cases b <;> rfl) rfl (by intro a; cases a <;> rfl) (by intro a b c r; cases a <;> first | rfl | (cases b <;> rfl))
    obtain ⟨x, y, rfl, r, r'⟩ := Reps.two hK ra
    exact call_max2 hc pins s σ H _ us Q I rx ⟨i, j, by rw [(show x = .int i from r), (show y = .int j from r')], o.ret S (show Rep N L ρ H (.int _) (.int _) from rfl)⟩
  | divmod =>
    obtain ⟨i, j, rfl, o⟩ := two_ints (f := fun i j => if 0 < j ∧ j < 2 ^ 256 then ret (.tup [.int (i / j), .int (i % j)]) else no) o (by intro a b; cases a <;> cases b <;> rfl) rfl (by intro a; cases a <;> rfl) (by intro a b c r; cases a <;> first | rfl | (cases b <;> rfl))
    obtain ⟨x, y, rfl, r, r'⟩ := Reps.two hK ra
    obtain ⟨c, o⟩ := o.iteN
    refine call_divmodW pins s σ H _ us Q I rx ⟨i, j, by rw [(show x = .int i from r), (show y = .int j from r')], ⟨c.1, PyProof.noPylong_of_log2 (log_small c)⟩, o.tup S ⟨_, _, rfl, rfl, _, _, rfl, rfl, rfl⟩⟩
  | int => match as, ra, o with
    | [a], ra, o =>
      obtain ⟨x, rfl, r⟩ := Reps.one hK ra
      cases a with
      | int i => exact call_int1 pins s σ H _ us Q I rx (.inl ⟨i, by rw [(show x = .int i from r)], o.ret S (show Rep N L ρ H (.int _) (.int _) from rfl)⟩)
      | bl i => exact call_int1 pins s σ H _ us Q I rx (.inr ⟨i, by rw [(show x = .bl i from r)], o.ret S (show Rep N L ρ H (.int _) (.int _) from rfl)⟩)
      | _ => exact o.no.elim
    | [], _, o => exact o.no.elim
    | a :: _ :: _, _, o => cases a <;> exact o.no.elim
  | abs => match as, ra, o with
    | [a], ra, o =>
      obtain ⟨x, rfl, r⟩ := Reps.one hK ra
      cases a with
      | int i => exact call_abs pins s σ H _ us Q I rx ⟨i, by rw [(show x = .int i from r)], o.ret S (show Rep N L ρ H (.int _) (.int _) from rfl)⟩
      | _ => exact o.no.elim
    | [], _, o => exact o.no.elim
    | a :: _ :: _, _, o => cases a <;> exact o.no.elim
  | repr => match as, ra, o with
    | [a], ra, o =>
      obtain ⟨x, rfl, r⟩ := Reps.one hK ra
      exact ok_repr hK hu hg pins s σ H x us Q I rx ⟨W, L, ρ, h, a, S, r, o⟩
    | [], _, o => exact o.no.elim
    | _ :: _ :: _, _, o => exact o.no.elim
  | _ => exact o.no.elim

/-! ### methods of lists -/
def bmI : Bm → String
  | .append => "list.append"
  | .extend => "list.extend"
  | .pop => "list.pop"
omit hK in
theorem setO_eq {n : Nat} {o u : O} {h : Sto} (w : h[n]? = some u) : Mt.setO n o h = .ok () (h.set n o) := if_pos (List.getElem?_eq_some_iff.mp w).1
/-- an object of the store is changed -/
theorem sto_set {L : Al} {ρ : Ro} {H : Hp} {h : Sto} {n : Nat} {p : Addr} {o u : O} {k : HO} (S : StoOk N L ρ H h) (w : h[n]? = some u) (q : ρ n = some p) (lk : Lv (some k)) (hi : ∀ i C dx fs, H i = some (.ins C dx fs) → i = p → ∃ C' fs', k = .ins C' dx fs')
    (r : ∀ s : Stp ρ H ρ (upd H p k), RepO N L ρ (upd H p k) p o) : Stp ρ H ρ (upd H p k) ∧ StoOk N L ρ (upd H p k) (h.set n o) := by
  have s : Stp ρ H ρ (upd H p k) := ⟨S.liv, fun a v e hn => by rw [upd_ne (fun z => hn n (by rw [z]; exact q))]; exact e, fun _ _ e => .inl e, fun _ _ e => e⟩
  have hlv := S.liv n p q
  refine ⟨s, S.inj, fun i a e => by rw [List.length_set]; exact S.dom i a e, fun i v e => ?_, fun a l => ?_⟩
  · by_cases en : i = n
    · subst en
      rw [List.getElem?_set_self (List.getElem?_eq_some_iff.mp w).1] at e
      cases e
      exact ⟨p, q, r s⟩
    · rw [List.getElem?_set_ne (Ne.symm en)] at e
      obtain ⟨a, e1, ro⟩ := S.obj i v e
      have ne : a ≠ p := fun z => en (S.inj i n a e1 (by rw [z]; exact q))
      refine ⟨a, e1, ?_⟩
      cases v with
      | lst xs => obtain ⟨ys, e2, rr⟩ := ro; exact ⟨ys, by rw [upd_ne ne]; exact e2, rr.stp s⟩
      | dic ks vs => obtain ⟨ys, e2, rr⟩ := ro; exact ⟨ys, e2.upd ne, rr.stp s⟩
      | ins c fs vs =>
        obtain ⟨ys, ⟨dx, e2, e3, hl⟩, rr⟩ := ro
        exact ⟨ys, ⟨dx, by rw [upd_ne ne]; exact e2, s.at e3 id, hl⟩, rr.stp s⟩
  · refine ⟨?_, (S.out a l).2⟩
    rw [upd_ne (fun z => (S.out a l).2 n (by rw [z]; exact q))]
    exact (S.out a l).1
/-- a list of the store is changed -/
theorem sto_lst {L : Al} {ρ : Ro} {H : Hp} {h : Sto} {n : Nat} {p : Addr} {xs zs : List T} {ys ws : List V} (S : StoOk N L ρ H h) (w : h[n]? = some (.lst xs)) (q : ρ n = some p) (hl : H p = some (.lst ys)) (r : Reps N L ρ H zs ws) :
    Stp ρ H ρ (upd H p (.lst ws)) ∧ StoOk N L ρ (upd H p (.lst ws)) (h.set n (.lst zs)) :=
  sto_set hK S w q trivial (fun i C dx fs e z => by subst z; rw [hl] at e; cases e) fun s => ⟨ws, upd_same, r.stp s⟩
omit hK in
theorem reps_last {L : Al} {ρ : Ro} {H : Hp} : ∀ {xs : List T} {ys : List V} {y : T}, Reps N L ρ H xs ys → xs.getLast? = some y → ∃ v, ys[ys.length - 1]? = some v ∧ Rep N L ρ H y v := by
  intro xs ys y r e
  rw [List.getLast?_eq_getElem?] at e
  rw [← r.length]
  exact r.get e
omit hK in
theorem reps_dropLast {L : Al} {ρ : Ro} {H : Hp} {xs : List T} {ys : List V} (r : Reps N L ρ H xs ys) : Reps N L ρ H xs.dropLast ys.dropLast := by
  rw [List.dropLast_eq_take, List.dropLast_eq_take, r.length]
  exact r.take _
theorem ok_bm : ∀ p : Bm, MtR X (bmI p) (rM N (bmT p)) := by
  intro p pins s σ H x xs v us Q I rx rxs ⟨W, L, ρ, h, a, as, S, ra, ras, o⟩
  cases p with
  | append => match a, as, ra, ras, o with
    | .ref n, [b], ra, ras, o =>
      obtain ⟨p, rfl, q⟩ := ra
      obtain ⟨y, rfl, ry⟩ := Reps.one hK ras
      obtain ⟨u, w, o⟩ := o.getO
      cases u with
      | lst zs =>
        obtain ⟨ys, hl, rr⟩ := S.lst w q
        have o : Out N (RT N) W L ρ H ((if zs.length < sizeLine then Mt.bnd (Mt.setO n (.lst (zs ++ [b]))) (fun _ => Mt.ret .non) else Mt.no) h) Q := o
        obtain ⟨c, o⟩ := o.iteN
        have rz : Reps N L ρ H (zs ++ [b]) (ys ++ [y]) := rr.append ⟨y, [], rfl, ry, rfl⟩
        obtain ⟨st, So⟩ := sto_lst hK S w q hl rz
        unfold Mt.bnd at o
        rw [setO_eq w] at o
        exact mt_append pins s σ H _ _ v us Q I rx rxs ⟨p, ys, y, rfl, rfl, hl, by rw [← rr.length]; exact c, o.okD _ _ _ st So rfl⟩
      | _ => exact o.no.elim
    | .ref n, [], _, _, o => exact o.no.elim
    | .ref n, _ :: _ :: _, _, _, o => exact o.no.elim
    | .non, _, _, _, o => exact o.no.elim
    | .bl _, _, _, _, o => exact o.no.elim
    | .int _, _, _, _, o => exact o.no.elim
    | .str _, _, _, _, o => exact o.no.elim
    | .byt _, _, _, _, o => exact o.no.elim
    | .tup _, _, _, _, o => exact o.no.elim
    | .lst _, _, _, _, o => exact o.no.elim
    | .dic _ _, _, _, _, o => exact o.no.elim
    | .obj _ _ _, _, _, _, o => exact o.no.elim
    | .scr _, _, _, _, o => exact o.no.elim
  | extend => match a, as, ra, ras, o with
    | .ref n, [.lst bs], ra, ras, o =>
      obtain ⟨p, rfl, q⟩ := ra
      obtain ⟨y, rfl, ry⟩ := Reps.one hK ras
      obtain ⟨pb, yb, rfl, _, hb, rb⟩ := ry
      obtain ⟨u, w, o⟩ := o.getO
      cases u with
      | lst zs =>
        obtain ⟨ys, hl, rr⟩ := S.lst w q
        have o : Out N (RT N) W L ρ H ((if zs.length + bs.length ≤ sizeLine then Mt.bnd (Mt.setO n (.lst (zs ++ bs))) (fun _ => Mt.ret .non) else Mt.no) h) Q := o
        obtain ⟨c, o⟩ := o.iteN
        obtain ⟨st, So⟩ := sto_lst hK S w q hl (rr.append rb)
        unfold Mt.bnd at o
        rw [setO_eq w] at o
        exact mt_extend pins s σ H _ _ v us Q I rx rxs ⟨p, pb, ys, yb, rfl, rfl, hl, hb, by rw [← rr.length, ← rb.length]; exact c, o.okD _ _ _ st So rfl⟩
      | _ => exact o.no.elim
    | .ref n, [], _, _, o => exact o.no.elim
    | .ref n, b :: _ :: _, _, _, o => cases b <;> exact o.no.elim
    | .ref n, [.non], _, _, o => exact o.no.elim
    | .ref n, [.bl _], _, _, o => exact o.no.elim
    | .ref n, [.int _], _, _, o => exact o.no.elim
    | .ref n, [.str _], _, _, o => exact o.no.elim
    | .ref n, [.byt _], _, _, o => exact o.no.elim
    | .ref n, [.tup _], _, _, o => exact o.no.elim
    | .ref n, [.dic _ _], _, _, o => exact o.no.elim
    | .ref n, [.obj _ _ _], _, _, o => exact o.no.elim
    | .ref n, [.ref _], _, _, o => exact o.no.elim
    | .ref n, [.scr _], _, _, o => exact o.no.elim
    | .non, _, _, _, o => exact o.no.elim
    | .bl _, _, _, _, o => exact o.no.elim
    | .int _, _, _, _, o => exact o.no.elim
    | .str _, _, _, _, o => exact o.no.elim
    | .byt _, _, _, _, o => exact o.no.elim
    | .tup _, _, _, _, o => exact o.no.elim
    | .lst _, _, _, _, o => exact o.no.elim
    | .dic _ _, _, _, _, o => exact o.no.elim
    | .obj _ _ _, _, _, _, o => exact o.no.elim
    | .scr _, _, _, _, o => exact o.no.elim
  | pop => match a, as, ra, ras, o with
    | .ref n, [], ra, ras, o =>
      obtain ⟨p, rfl, q⟩ := ra
      cases (show xs = [] from ras)
      obtain ⟨u, w, o⟩ := o.getO
      cases u with
      | lst zs =>
        obtain ⟨ys, hl, rr⟩ := S.lst w q
        have o : Out N (RT N) W L ρ H ((match zs.getLast? with
          | some y => Mt.bnd (Mt.setO n (.lst zs.dropLast)) (fun _ => Mt.ret y)
          | none => Mt.no) h) Q := o
        cases e : zs.getLast? with
        | none => rw [e] at o; exact o.no.elim
        | some b =>
          rw [e] at o
          obtain ⟨y, ey, ry⟩ := reps_last rr e
          obtain ⟨st, So⟩ := sto_lst hK S w q hl (reps_dropLast rr)
          have o : Out N (RT N) W L ρ H (Mt.bnd (Mt.setO n (.lst zs.dropLast)) (fun _ => Mt.ret b) h) Q := o
          unfold Mt.bnd at o
          rw [setO_eq w] at o
          exact mt_pop pins s σ H _ _ v us Q I rx rxs ⟨p, ys, y, rfl, rfl, hl, ey, o.okD _ _ _ st So (ry.stp st)⟩
      | _ => exact o.no.elim
    | .ref n, _ :: _, _, _, o => exact o.no.elim
    | .non, _, _, _, o => exact o.no.elim
    | .bl _, _, _, _, o => exact o.no.elim
    | .int _, _, _, _, o => exact o.no.elim
    | .str _, _, _, _, o => exact o.no.elim
    | .byt _, _, _, _, o => exact o.no.elim
    | .tup _, _, _, _, o => exact o.no.elim
    | .lst _, _, _, _, o => exact o.no.elim
    | .dic _ _, _, _, _, o => exact o.no.elim
    | .obj _ _ _, _, _, _, o => exact o.no.elim
    | .scr _, _, _, _, o => exact o.no.elim
end
end Mt

set_option maxHeartbeats 8000000
/-! Mt6: expressions. -/
namespace Mt
open PySem PySem.Spec PyProof.Rows L2

/-- a def's names lie as told -/
def ERel (N : Nm) (L : Al) (ρ : Ro) (H : Hp) (σT : Env) (σ : List (Option V)) : Prop := σT.length = σ.length ∧ ∀ (i : Nat) (t : T), σT[i]? = some (some t) → ∃ v, σ[i]? = some (some v) ∧ Rep N L ρ H t v
theorem ERel.stp {N : Nm} {L : Al} {ρ ρ' : Ro} {H H' : Hp} {σT : Env} {σ : L2.St} (s : Stp ρ H ρ' H') (E : ERel N L ρ H σT σ) : ERel N L ρ' H' σT σ := ⟨E.1, fun i t e => let ⟨v, h1, h2⟩ := E.2 i t e; ⟨v, h1, h2.stp s⟩⟩
theorem ERel.set {N : Nm} {L : Al} {ρ : Ro} {H : Hp} {σT : Env} {σ : L2.St} {t : T} {v : V} (E : ERel N L ρ H σT σ) (r : Rep N L ρ H t v) (i : Nat) : ERel N L ρ H (σT.set i (some t)) (σ.set i (some v)) := by
  refine ⟨by rw [List.length_set, List.length_set]; exact E.1, fun j u e => ?_⟩
  by_cases q : i = j
  · subst q
    have hi : i < σT.length := by
      have := (List.getElem?_eq_some_iff.mp e).1
      rwa [List.length_set] at this
    rw [List.getElem?_set_self hi] at e
    cases e
    exact ⟨v, List.getElem?_set_self (by rw [← E.1]; exact hi), r⟩
  · rw [List.getElem?_set_ne q] at e ⊢
    exact E.2 j u e
theorem ERel.wipe1 {N : Nm} {L : Al} {ρ : Ro} {H : Hp} {σT : Env} {σ : L2.St} (E : ERel N L ρ H σT σ) (i : Nat) : ERel N L ρ H (σT.set i none) (σ.set i none) := by
  refine ⟨by rw [List.length_set, List.length_set]; exact E.1, fun j u e => ?_⟩
  by_cases q : i = j
  · subst q
    have hi : i < σT.length := by
      have := (List.getElem?_eq_some_iff.mp e).1
      rwa [List.length_set] at this
    rw [List.getElem?_set_self hi] at e
    cases e
  · rw [List.getElem?_set_ne q] at e ⊢
    exact E.2 j u e
theorem ERel.wipe {N : Nm} {L : Al} {ρ : Ro} {H : Hp} {σT : Env} {σ : L2.St} (E : ERel N L ρ H σT σ) : ∀ vs : List Nat, ERel N L ρ H (Mt.wipe σT vs) (L2.wipe σ vs)
  | [] => E
  | v :: vs => (E.wipe vs).wipe1 v

section
variable (N : Nm)
def tOf (W : WX) (E : Env → M T) : TE := fun σ H Q => ∃ L ρ h σT, StoOk N L ρ H h ∧ ERel N L ρ H σT σ ∧ Out N (RT N) (WE W σ) L ρ H (E σT h) Q
def tOfB (W : WX) (E : Env → M Bool) : TT := fun σ H Q => ∃ L ρ h σT, StoOk N L ρ H h ∧ ERel N L ρ H σT σ ∧ Out N RB (WE W σ) L ρ H (E σT h) Q
def tOfA (W : WX) (E : Env → M (List T)) : TA := fun σ H Q => ∃ L ρ h σT, StoOk N L ρ H h ∧ ERel N L ρ H σT σ ∧ Out N (RTs N) (WE W σ) L ρ H (E σT h) Q
end
section
variable {N : Nm} {W : WX} {α β : Type} {rl : Rl α β} {L : Al} {ρ : Ro} {H : Hp} {h : Sto} {σT : Env} {σ : L2.St}
theorem ofBnd {E : Env → M T} {f : T → M α} {Q : β → Hp → Prop} {Q' : VK} (S : StoOk N L ρ H h) (Er : ERel N L ρ H σT σ) (o : Out N rl (WE W σ) L ρ H (bnd (E σT) f h) Q)
    (k : ∀ x H1 ρ1 a h1, Stp ρ H ρ1 H1 → StoOk N L ρ1 H1 h1 → ERel N L ρ1 H1 σT σ → Rep N L ρ1 H1 a x → Out N rl (WE W σ) L ρ1 H1 (f a h1) Q → Q' x H1) : tOf N W E σ H Q' :=
  ⟨L, ρ, h, σT, S, Er, (o.bnd (rl := RT N)).imp fun x H1 ⟨ρ1, a, h1, _, s1, S1, r1, o1⟩ => k x H1 ρ1 a h1 s1 S1 (Er.stp s1) r1 o1⟩
/-- what stands behind a value -/
abbrev Nxt (N : Nm) (rl : Rl α β) (Wx : XK) (L : Al) (ρ : Ro) (H : Hp) (σT : Env) (σ : L2.St) (f : T → M α) (Q : β → Hp → Prop) : VK := fun x H1 => ∃ ρ1 a h1, Stp ρ H ρ1 H1 ∧ StoOk N L ρ1 H1 h1 ∧ ERel N L ρ1 H1 σT σ ∧ Rep N L ρ1 H1 a x ∧ Out N rl Wx L ρ1 H1 (f a h1) Q
theorem ofNxt {E : Env → M T} {f : T → M α} {Q : β → Hp → Prop} (S : StoOk N L ρ H h) (Er : ERel N L ρ H σT σ) (o : Out N rl (WE W σ) L ρ H (bnd (E σT) f h) Q) : tOf N W E σ H (Nxt N rl (WE W σ) L ρ H σT σ f Q) :=
  ofBnd S Er o fun x H1 ρ1 a h1 s1 S1 E1 r1 o1 => ⟨ρ1, a, h1, s1, S1, E1, r1, o1⟩
/-- the state goes on, the same store -/
theorem Out.step {γ δ : Type} {rm : Rl γ δ} {Wx : XK} {L : Al} {ρ ρ' : Ro} {H H' : Hp} {r : R γ} {Q : δ → Hp → Prop} (o : Out N rm Wx L ρ H r Q) (s : Stp ρ H ρ' H') : Out N rm Wx L ρ' H' r Q := by
  rcases o with ⟨a, h', e1, kk⟩ | ⟨a, h', e1, kk⟩
  · exact .inl ⟨a, h', e1, fun b H2 ρ2 s' S' r' => kk b H2 ρ2 (s.trans s') S' r'⟩
  · exact .inr ⟨a, h', e1, fun c d H2 ρ2 s' S' r' => kk c d H2 ρ2 (s.trans s') S' r'⟩
theorem ofBndB {E : Env → M Bool} {f : Bool → M α} {Q : β → Hp → Prop} {Q' : Bool → Hp → Prop} (S : StoOk N L ρ H h) (Er : ERel N L ρ H σT σ) (o : Out N rl (WE W σ) L ρ H (bnd (E σT) f h) Q)
    (k : ∀ x H1 ρ1 h1, Stp ρ H ρ1 H1 → StoOk N L ρ1 H1 h1 → ERel N L ρ1 H1 σT σ → Out N rl (WE W σ) L ρ1 H1 (f x h1) Q → Q' x H1) : tOfB N W E σ H Q' :=
  ⟨L, ρ, h, σT, S, Er, (o.bnd (rl := RB)).imp fun x H1 ⟨ρ1, a, h1, _, s1, S1, r1, o1⟩ => by
    cases (show a = x from r1)
    exact k x H1 ρ1 h1 s1 S1 (Er.stp s1) o1⟩
theorem ofBndA {E : Env → M (List T)} {f : List T → M α} {Q : β → Hp → Prop} {Q' : List V → Hp → Prop} (S : StoOk N L ρ H h) (Er : ERel N L ρ H σT σ) (o : Out N rl (WE W σ) L ρ H (bnd (E σT) f h) Q)
    (k : ∀ x H1 ρ1 a h1, Stp ρ H ρ1 H1 → StoOk N L ρ1 H1 h1 → ERel N L ρ1 H1 σT σ → Reps N L ρ1 H1 a x → Out N rl (WE W σ) L ρ1 H1 (f a h1) Q → Q' x H1) : tOfA N W E σ H Q' :=
  ⟨L, ρ, h, σT, S, Er, (o.bnd (rl := RTs N)).imp fun x H1 ⟨ρ1, a, h1, _, s1, S1, r1, o1⟩ => k x H1 ρ1 a h1 s1 S1 (Er.stp s1) r1 o1⟩
end
end Mt
namespace L2
open PySem PySem.Spec PyProof.Rows
section
variable {X : Cx} {e : Expr}
theorem PE.imp {t t' : TE} (p : PE X e t) (f : ∀ σ H Q, t' σ H Q → t σ H Q) : PE X e t' := ⟨fun pins s σ H Q I q => p.run pins s σ H Q I (f σ H Q q)⟩
theorem PT.imp {t t' : TT} (p : PT X e t) (f : ∀ σ H Q, t' σ H Q → t σ H Q) : PT X e t' := ⟨fun pins s σ H Q I q => p.run pins s σ H Q I (f σ H Q q)⟩
theorem PW.imp {t t' : TT} (p : PW X e t) (f : ∀ σ H Q, t' σ H Q → t σ H Q) : PW X e t' := ⟨fun wh pins s σ H Q I q => p.run wh pins s σ H Q I (f σ H Q q)⟩
theorem PA.imp {es : List Expr} {t t' : TA} (p : PA X es t) (f : ∀ σ H Q, t' σ H Q → t σ H Q) : PA X es t' := ⟨fun pos pins s σ H Q I q => p.run pos pins s σ H Q I (f σ H Q q)⟩
theorem PS.imp {st : Stmt} {t t' : TS} (p : PS X st t) (f : ∀ D σ H, t' D σ H → t D σ H) : PS X st t' := ⟨fun pins s σ H D I q => p.run pins s σ H D I (f D σ H q)⟩
theorem PSs.imp {st : List Stmt} {t t' : TS} (p : PSs X st t) (f : ∀ D σ H, t' D σ H → t D σ H) : PSs X st t' := ⟨fun pins s σ H D I q => p.run pins s σ H D I (f D σ H q)⟩
end

end L2
namespace Mt
open PySem PySem.Spec PyProof.Rows L2
section
variable {N : Nm} {X : Cx} (hK : X.K = N.K) {W : WX} {a b c d e : Expr} {Ea Eb Ec Ed : Env → M T} {pos : Pos}
theorem pe_tvar {i : Nat} (h : PE X e (tVar i)) : PE X e (tOf N W fun σ => ofO (σ[i]?.bind id)) := h.imp fun σ H Q ⟨L, ρ, h, σT, S, E, o⟩ => by
  obtain ⟨t, e1, o⟩ := o.ofO
  cases q : σT[i]? with
  | none => rw [q] at e1; cases e1
  | some w =>
    rw [q] at e1
    cases w with
    | none => cases e1
    | some t' =>
      cases e1
      obtain ⟨v, h1, h2⟩ := E.2 i t q
      exact ⟨v, h1, o.ret S h2⟩
theorem pe_tcon {t : T} {v : V} (h : PE X e (tC v)) (r : ∀ L ρ H, Rep N L ρ H t v) : PE X e (tOf N W fun _ => ret t) := h.imp fun σ H Q ⟨L, ρ, h, σT, S, E, o⟩ => o.ret S (r L ρ H)
theorem pe_tbin {op : Operator} {f : T → T → M T} (ho : OpR X (binaryOp op) (r2 N f)) (ha : PE X a (tOf N W Ea)) (hb : PE X b (tOf N W Eb)) : PE X (.BinOp a op b pos) (tOf N W fun σ => bnd (Ea σ) fun x => bnd (Eb σ) fun y => f x y) :=
  (pe_op ho ha hb).imp fun σ H Q ⟨L, ρ, h, σT, S, E, o⟩ => ofBnd S E o fun x H1 ρ1 t h1 s1 S1 E1 r1 o1 => ofBnd S1 E1 o1 fun y H2 ρ2 u h2 s2 S2 E2 r2 o2 => ⟨_, L, ρ2, h2, t, u, S2, r1.stp s2, r2, o2⟩
theorem pe_tun {op : UnaryOp} {f : T → M T} (ho : UnR X (unaryOp op) (r1 N f)) (ha : PE X a (tOf N W Ea)) : PE X (.UnaryOp op a pos) (tOf N W fun σ => bnd (Ea σ) f) :=
  (pe_un ho ha).imp fun σ H Q ⟨L, ρ, h, σT, S, E, o⟩ => ofBnd S E o fun x H1 ρ1 t h1 s1 S1 E1 r1 o1 => ⟨_, L, ρ1, h1, t, S1, r1, o1⟩
include hK in
theorem tru_val {α β : Type} {rl : Rl α β} {Wx : XK} {L : Al} {ρ : Ro} {H : Hp} {h : Sto} {t : T} {x : V} {f : Bool → M α} {Q : β → Hp → Prop} (S : StoOk N L ρ H h) (r : Rep N L ρ H t x) (o : Out N rl Wx L ρ H (bnd (truT t) f h) Q) : ∃ k, TruV X.K x H k ∧ Out N rl Wx L ρ H (f k h) Q := by
  cases t with
  | non => cases r; exact ⟨_, rfl, o⟩
  | bl b => cases r; exact ⟨_, rfl, o⟩
  | int i => cases r; exact ⟨_, rfl, o⟩
  | str z =>
    cases r
    have o : Out N rl Wx L ρ H (bnd (if z.length ≤ sizeLine then ret (z.length != 0) else no) f h) Q := o
    rw [bnd_ite] at o
    obtain ⟨c, o⟩ := o.iteN
    exact ⟨_, ⟨c, by
      show (z.length != 0) = ((z.length : Int) != 0)
      cases e : z.length with
      | zero => rfl
      | succ n => simp; omega⟩, o⟩
  | tup xs =>
    obtain ⟨p, vs, rfl, q, r⟩ := r
    exact ⟨_, .inr (.inl ⟨vs, by rw [hK]; exact q, by cases xs with
      | nil => cases (show vs = [] from r); rfl
      | cons _ _ => obtain ⟨y, zs, e, _⟩ := r; rw [e]; rfl⟩), o⟩
  | lst xs =>
    obtain ⟨p, vs, rfl, _, q, r⟩ := r
    exact ⟨_, .inl ⟨vs, .inl (.inl q), by cases xs with
      | nil => cases (show vs = [] from r); rfl
      | cons _ _ => obtain ⟨y, zs, e, _⟩ := r; rw [e]; rfl⟩, o⟩
  | _ => exact o.no.elim
include hK in
theorem pe_tand {rest : List Expr} (ha : PE X a (tOf N W Ea)) (hb : PE X (.BoolOp .And (b :: rest) pos) (tOf N W Eb)) : PE X (.BoolOp .And (a :: b :: rest) pos) (tOf N W fun σ => bnd (Ea σ) fun x => bnd (truT x) fun t => if t then Eb σ else ret x) :=
  (pe_andT ha hb).imp fun σ H Q ⟨L, ρ, h, σT, S, E, o⟩ => ofBnd S E o fun x H1 ρ1 t h1 s1 S1 E1 r1 o1 => by
    obtain ⟨k, tv, o2⟩ := tru_val hK S1 r1 o1
    refine ⟨k, tv, ?_⟩
    cases k with
    | true => exact ⟨L, ρ1, h1, σT, S1, E1, o2⟩
    | false => exact o2.ret S1 r1
include hK in
theorem pe_tor {rest : List Expr} (ha : PE X a (tOf N W Ea)) (hb : PE X (.BoolOp .Or (b :: rest) pos) (tOf N W Eb)) : PE X (.BoolOp .Or (a :: b :: rest) pos) (tOf N W fun σ => bnd (Ea σ) fun x => bnd (truT x) fun t => if t then ret x else Eb σ) :=
  (pe_orT ha hb).imp fun σ H Q ⟨L, ρ, h, σT, S, E, o⟩ => ofBnd S E o fun x H1 ρ1 t h1 s1 S1 E1 r1 o1 => by
    obtain ⟨k, tv, o2⟩ := tru_val hK S1 r1 o1
    refine ⟨k, tv, ?_⟩
    cases k with
    | true => exact o2.ret S1 r1
    | false => exact ⟨L, ρ1, h1, σT, S1, E1, o2⟩
include hK in
theorem pe_tnot (ha : PE X a (tOf N W Ea)) : PE X (.UnaryOp .Not a pos) (tOf N W fun σ => bnd (Ea σ) fun x => bnd (truT x) fun t => ret (.bl (!t))) :=
  (pe_notT ha).imp fun σ H Q ⟨L, ρ, h, σT, S, E, o⟩ => ofBnd S E o fun x H1 ρ1 t h1 s1 S1 E1 r1 o1 => by
    obtain ⟨k, tv, o2⟩ := tru_val hK S1 r1 o1
    exact ⟨k, tv, o2.ret S1 (show Rep N L ρ1 H1 (.bl _) (.bl _) from rfl)⟩
theorem pe_tite {Bc : Env → M Bool} (hc : PT X c (tOfB N W Bc)) (ha : PE X a (tOf N W Ea)) (hb : PE X b (tOf N W Eb)) : PE X (.IfExp c a b pos) (tOf N W fun σ => bnd (Bc σ) fun t => if t then Ea σ else Eb σ) :=
  (pe_ifExp hc ha hb).imp fun σ H Q ⟨L, ρ, h, σT, S, E, o⟩ => ofBndB S E o fun x H1 ρ1 h1 s1 S1 E1 o1 => by
    cases x with
    | true => exact ⟨L, ρ1, h1, σT, S1, E1, o1⟩
    | false => exact ⟨L, ρ1, h1, σT, S1, E1, o1⟩
theorem pe_tcmp {op : Cm} (ho : OpR X (compareOp (cmO op)) (r2 N (cmpM op))) (ha : PE X a (tOf N W Ea)) (hb : PE X b (tOf N W Eb)) (hm : behindInMarks (cmO op) b = false) :
    PE X (.Compare a [cmO op] [b] pos) (tOf N W fun σ => bnd (Ea σ) fun x => bnd (Eb σ) fun y => bnd (ofO (cmpT op x y)) fun k => ret (.bl k)) :=
  (pe_cmpR ho ha hb hm).imp fun σ H Q ⟨L, ρ, h, σT, S, E, o⟩ => ofBnd S E o fun x H1 ρ1 t h1 s1 S1 E1 r1 o1 => ofBnd S1 E1 o1 fun y H2 ρ2 u h2 s2 S2 E2 r2 o2 => ⟨_, L, ρ2, h2, t, u, S2, r1.stp s2, r2, o2⟩
theorem pt_tcmp {op : Cm} (ho : OpR X (compareOp (cmO op)) (r2 N (cmpM op))) (ha : PE X a (tOf N W Ea)) (hb : PE X b (tOf N W Eb)) (hm : behindInMarks (cmO op) b = false) :
    PT X (.Compare a [cmO op] [b] pos) (tOfB N W fun σ => bnd (Ea σ) fun x => bnd (Eb σ) fun y => ofO (cmpT op x y)) :=
  (pt_cmpR ho ha hb hm).imp fun σ H Q ⟨L, ρ, h, σT, S, E, o⟩ => ofBnd S E o fun x H1 ρ1 t h1 s1 S1 E1 r1 o1 => ofBnd S1 E1 o1 fun y H2 ρ2 u h2 s2 S2 E2 r2 o2 => by
    obtain ⟨k, e, o3⟩ := o2.ofO
    refine ⟨WE W σ, L, ρ2, h2, t, u, S2, r1.stp s2, r2, ?_⟩
    show Out N (RT N) (WE W σ) L ρ2 H2 (bnd (ofO (cmpT op t u)) (fun b => ret (.bl b)) h2) _
    rw [e]
    exact .inl ⟨_, _, rfl, fun v H3 ρ3 s3 S3 r3 => ⟨k, r3, o3.okD k H3 ρ3 s3 S3 rfl⟩⟩
/-- one comparison by values, its answer -/
theorem cmp_val {op : Cm} (ho : OpR X (compareOp (cmO op)) (r2 N (cmpM op))) {pins : List (Addr × Obj)} {s : Shared} {L : Al} {ρ : Ro} {H : Hp} {h : Sto} {σ : L2.St} {t u : T} {x y : V} {v w : Value} {k : Bool} (I : Inv X pins σ H s) (rx : RelV x v) (ry : RelV y w)
    (S : StoOk N L ρ H h) (r1 : Rep N L ρ H t x) (r2' : Rep N L ρ H u y) (e : cmpT op t u = some k) : wpAny (model X.prog X.w) X.A (compareOp (cmO op) v w) (fun z s' => z = .bool k ∧ ∃ H' ρ', Inv X pins σ H' s' ∧ Stp ρ H ρ' H' ∧ StoOk N L ρ' H' h) X.xe s := by
  refine thn (ho pins s σ H x y v w (fun z H' => z = .bl k ∧ ∃ ρ', Stp ρ H ρ' H' ∧ StoOk N L ρ' H' h) I rx ry ⟨fun _ _ _ => False, L, ρ, h, t, u, S, r1, r2', ?_⟩) fun z s' ⟨z', H', I', rz, ez, ρ', st, S'⟩ => ?_
  · show Out N (RT N) _ L ρ H (bnd (ofO (cmpT op t u)) (fun b => ret (.bl b)) h) _
    rw [e]
    exact .inl ⟨_, _, rfl, fun v H3 ρ3 s3 S3 r3 => ⟨r3, ρ3, s3, S3⟩⟩
  · subst ez
    exact ⟨rz, H', ρ', I', st, S'⟩
theorem pe_tcmp2 {op op' : Cm} (ho : OpR X (compareOp (cmO op)) (r2 N (cmpM op))) (ho' : OpR X (compareOp (cmO op')) (r2 N (cmpM op'))) (ha : PE X a (tOf N W Ea)) (hb : PE X b (tOf N W Eb)) (hc : PE X c (tOf N W Ec)) (hm : lastMarks [cmO op, cmO op'] [b, c] = false) :
    PE X (.Compare a [cmO op, cmO op'] [b, c] pos) (tOf N W fun σ => bnd (Ea σ) fun x => bnd (Eb σ) fun y => bnd (ofO (cmpT op x y)) fun t => if t then bnd (Ec σ) fun z => bnd (ofO (cmpT op' y z)) fun u => ret (.bl u) else ret (.bl false)) := by
  refine ⟨fun pins s σ H Q I ⟨L, ρ, h, σT, S, E, o⟩ => ?_⟩
  refine Compare_chain (thn (ha.run pins s σ H _ I (ofNxt S E o)) fun v s1 ⟨x, H1, I1, rx, ρ1, t, h1, st1, S1, E1, r1, o1⟩ =>
    chain_link (thn (hb.run pins s1 σ H1 _ I1 (ofNxt S1 E1 o1)) fun w s2 ⟨y, H2, I2, ry, ρ2, u, h2, st2, S2, E2, r2, o2⟩ => ?_)) hm
  obtain ⟨k, ek, o2⟩ := o2.bndO
  refine thn (cmp_val ho I2 rx ry S2 (r1.stp st2) r2 ek) fun z s3 ⟨ez, H3, ρ3, I3, st3, S3⟩ => ?_
  subst ez
  refine wpAny_truthy_bool ?_
  have E3 := E2.stp st3
  have o3 := o2.step st3
  cases k with
  | false => exact ite_ff ⟨.bl false, H3, I3, rfl, o3.ret S3 (show Rep N L ρ3 H3 (.bl false) (.bl false) from rfl)⟩
  | true =>
    refine ite_tt (chain_last (thn (hc.run pins s3 σ H3 _ I3 (ofNxt S3 E3 o3)) fun w' s4 ⟨z, H4, I4, rz, ρ4, w, h4, st4, S4, E4, r4, o4⟩ => ?_))
    exact ho' pins s4 σ H4 _ _ _ _ Q I4 ry rz ⟨_, L, ρ4, h4, u, w, S4, (r2.stp st3).stp st4, r4, o4⟩
theorem pe_tcmp3 {op op' op'' : Cm} (ho : OpR X (compareOp (cmO op)) (r2 N (cmpM op))) (ho' : OpR X (compareOp (cmO op')) (r2 N (cmpM op'))) (ho'' : OpR X (compareOp (cmO op'')) (r2 N (cmpM op''))) (ha : PE X a (tOf N W Ea)) (hb : PE X b (tOf N W Eb)) (hc : PE X c (tOf N W Ec)) (hd : PE X d (tOf N W Ed))
    (hm : lastMarks [cmO op, cmO op', cmO op''] [b, c, d] = false) : PE X (.Compare a [cmO op, cmO op', cmO op''] [b, c, d] pos) (tOf N W fun σ => bnd (Ea σ) fun x => bnd (Eb σ) fun y => bnd (ofO (cmpT op x y)) fun t =>
      if t then bnd (Ec σ) fun z => bnd (ofO (cmpT op' y z)) fun u => if u then bnd (Ed σ) fun w => bnd (ofO (cmpT op'' z w)) fun r => ret (.bl r) else ret (.bl false) else ret (.bl false)) := by
  refine ⟨fun pins s σ H Q I ⟨L, ρ, h, σT, S, E, o⟩ => ?_⟩
  refine Compare_chain (thn (ha.run pins s σ H _ I (ofNxt S E o)) fun v s1 ⟨x, H1, I1, rx, ρ1, t, h1, st1, S1, E1, r1, o1⟩ =>
    chain_link (thn (hb.run pins s1 σ H1 _ I1 (ofNxt S1 E1 o1)) fun w s2 ⟨y, H2, I2, ry, ρ2, u, h2, st2, S2, E2, r2, o2⟩ => ?_)) hm
  obtain ⟨k, ek, o2⟩ := o2.bndO
  refine thn (cmp_val ho I2 rx ry S2 (r1.stp st2) r2 ek) fun z s3 ⟨ez, H3, ρ3, I3, st3, S3⟩ => ?_
  subst ez
  refine wpAny_truthy_bool ?_
  have E3 := E2.stp st3
  have o3 := o2.step st3
  cases k with
  | false => exact ite_ff ⟨.bl false, H3, I3, rfl, o3.ret S3 (show Rep N L ρ3 H3 (.bl false) (.bl false) from rfl)⟩
  | true =>
    refine ite_tt (chain_link (thn (hc.run pins s3 σ H3 _ I3 (ofNxt S3 E3 o3)) fun w' s4 ⟨z, H4, I4, rz, ρ4, w, h4, st4, S4, E4, r4, o4⟩ => ?_))
    obtain ⟨k', ek', o4⟩ := o4.bndO
    refine thn (cmp_val ho' I4 ry rz S4 ((r2.stp st3).stp st4) r4 ek') fun z' s5 ⟨ez', H5, ρ5, I5, st5, S5⟩ => ?_
    subst ez'
    refine wpAny_truthy_bool ?_
    have o5 := o4.step st5
    cases k' with
    | false => exact ite_ff ⟨.bl false, H5, I5, rfl, o5.ret S5 (show Rep N L ρ5 H5 (.bl false) (.bl false) from rfl)⟩
    | true =>
      refine ite_tt (chain_last (thn (hd.run pins s5 σ H5 _ I5 (ofNxt S5 (E4.stp st5) o5)) fun w6 s6 ⟨x6, H6, I6, rx6, ρ6, t6, h6, st6, S6, E6, r6, o6⟩ => ?_))
      exact ho'' pins s6 σ H6 _ _ _ _ Q I6 rz rx6 ⟨_, L, ρ6, h6, w, t6, S6, (r4.stp st5).stp st6, r6, o6⟩
/-! ### displays, subscripts, fields -/
theorem pa_tnil : PA X [] (tOfA N W fun _ => ret []) := pa_nil.imp fun σ H Q ⟨L, ρ, h, σT, S, E, o⟩ => o.ret S (show Reps N L ρ H [] [] from rfl)
theorem pa_tcons {es : List Expr} {Es : Env → M (List T)} (ha : PE X a (tOf N W Ea)) (hr : PA X es (tOfA N W Es)) (hs : starEach (a :: es) X.env = (false, eval a X.env) :: starEach es X.env) : PA X (a :: es) (tOfA N W fun σ => bnd (Ea σ) fun x => bnd (Es σ) fun xs => ret (x :: xs)) :=
  (pa_cons ha hr hs).imp fun σ H Q ⟨L, ρ, h, σT, S, E, o⟩ => ofBnd S E o fun x H1 ρ1 t h1 s1 S1 E1 r1 o1 => ofBndA S1 E1 o1 fun y H2 ρ2 u h2 s2 S2 E2 r2 o2 => o2.ret S2 (show Reps N L ρ2 H2 (t :: u) (x :: y) from ⟨x, y, rfl, r1.stp s2, r2⟩)
theorem pe_ttup {es : List Expr} {x1 : Nat} {Es : Env → M (List T)} (h : PA X es (tOfA N W Es)) : PE X (.Tuple es x1 pos) (tOf N W fun σ => bnd (Es σ) fun xs => if xs.length ≤ sizeLine then ret (.tup xs) else no) :=
  (pe_tup h).imp fun σ H Q ⟨L, ρ, h, σT, S, E, o⟩ => ofBndA S E o fun x H1 ρ1 t h1 s1 S1 E1 r1 o1 => by
    obtain ⟨c, o1⟩ := o1.iteN
    exact ⟨by rw [← r1.length]; exact c, o1.tup S1 r1⟩
theorem pe_tlst {es : List Expr} {Es : Env → M (List T)} {m : Bool} (h : PA X es (tOfA N W Es)) : PE X (.List es pos) (tOf N W fun σ => bnd (Es σ) fun xs => if xs.length ≤ sizeLine then mkL m xs else no) :=
  (pe_lst h).imp fun σ H Q ⟨L, ρ, h, σT, S, E, o⟩ => ofBndA S E o fun x H1 ρ1 t h1 s1 S1 E1 r1 o1 => by
    obtain ⟨c, o1⟩ := o1.iteN
    exact ⟨by rw [← r1.length]; exact c, o1.mkL S1 r1⟩
include hK in
theorem pe_tidx (ha : PE X a (tOf N W Ea)) (hb : PE X b (tOf N W Eb)) (hp : ∀ o i, subscripted b false o i = operate [o, i] (getItem o i)) : PE X (.Subscript a b pos) (tOf N W fun σ => bnd (Ea σ) fun x => bnd (Eb σ) fun y => idxT x y) :=
  (pe_ix (ok_idx hK) ha hb hp).imp fun σ H Q ⟨L, ρ, h, σT, S, E, o⟩ => ofBnd S E o fun x H1 ρ1 t h1 s1 S1 E1 r1 o1 => ofBnd S1 E1 o1 fun y H2 ρ2 u h2 s2 S2 E2 r2 o2 => ⟨_, L, ρ2, h2, t, u, S2, r1.stp s2, r2, o2⟩
/-- a part of a slice -/
def tOfO (N : Nm) (W : WX) (E : Env → M (Option Int)) : TO := fun σ H Q => ∃ L ρ h σT, StoOk N L ρ H h ∧ ERel N L ρ H σT σ ∧ Out N (fun _ _ _ a b => a = b) (WE W σ) L ρ H (E σT h) Q
theorem po_tnone : PO X none (tOfO N W fun _ => ret none) := ⟨fun pins s σ H Q I ⟨L, ρ, h, σT, S, E, o⟩ => po_none.run pins s σ H Q I (o.ret S rfl)⟩
theorem po_tsome (ha : PE X a (tOf N W Ea)) : PO X (some a) (tOfO N W fun σ => bnd (Ea σ) fun
    | .int i => ret (some i)
    | _ => no) := ⟨fun pins s σ H Q I ⟨L, ρ, h, σT, S, E, o⟩ => (po_some ha).run pins s σ H Q I (ofBnd S E o fun x H1 ρ1 t h1 s1 S1 E1 r1 o1 => by
  cases t with
  | int i => exact ⟨i, r1, o1.ret S1 rfl⟩
  | _ => exact o1.no.elim)⟩
include hK in
theorem pe_tslc {lo hi : Option Expr} {Lo Hi : Env → M (Option Int)} {m : Bool} {p2 : Pos} (ha : PE X a (tOf N W Ea)) (hl : PO X lo (tOfO N W Lo)) (hh : PO X hi (tOfO N W Hi)) :
    PE X (.Subscript a (.Slice lo hi none p2) pos) (tOf N W fun σ => bnd (Ea σ) fun x => bnd (Lo σ) fun l => bnd (Hi σ) fun h => slcT m l h x) :=
  (pe_slice (ok_slc hK (m := m)) ha hl hh).imp fun σ H Q ⟨L, ρ, h, σT, S, E, o⟩ => ofBnd S E o fun x H1 ρ1 t h1 s1 S1 E1 r1 o1 =>
    ⟨L, ρ1, h1, σT, S1, E1, (o1.bnd (rl := fun _ _ _ a b => a = b)).imp fun l H2 ⟨ρ2, l', h2, _, s2, S2, el, o2⟩ => by
      cases (show l' = l from el)
      exact ⟨L, ρ2, h2, σT, S2, E1.stp s2, (o2.bnd (rl := fun _ _ _ a b => a = b)).imp fun u H3 ⟨ρ3, u', h3, _, s3, S3, eu, o3⟩ => by
        cases (show u' = u from eu)
        exact ⟨_, L, ρ3, h3, t, S3, (r1.stp s2).stp s3, o3⟩⟩⟩
include hK in
theorem pe_tfld {f : Nat} (ha : PE X a (tOf N W Ea)) (hb : attributeBase a (N.fnm f) X.env (eval a X.env) = eval a X.env) (kf : N.kf f) : PE X (.Attribute a (N.fnm f) pos) (tOf N W fun σ => bnd (Ea σ) (fldT f)) :=
  (pe_fld ha hb).imp fun σ H Q ⟨L, ρ, h, σT, S, E, o⟩ => ofBnd S E o fun x H1 ρ1 t h1 s1 S1 E1 r1 o1 => by
    obtain ⟨p, c, dx, gs, y, e1, e2, kc, l, q⟩ := fld_rep S1 r1 o1
    exact ⟨p, N.cadr c, dx, gs, y, e1, e2, by rw [hK]; exact (N.insK c kc).1, by rw [hK]; exact N.fldK c f kc kf, l, q⟩
end
end Mt

set_option maxHeartbeats 8000000
/-! Mt7: built-ins by name, methods of lists, tests. -/
namespace Mt
open PySem PySem.Spec PyProof.Rows L2
section
variable {N : Nm} {X : Cx} (hK : X.K = N.K) {W : WX} {a b c d e : Expr} {es : List Expr} {Ea Eb Ec Ed : Env → M T} {Es : Env → M (List T)} {pos p : Pos} {x : Str}
theorem pe_tcallB {id : String} {f : List T → M T} (hr : CallR X (.builtin id) (rN N f)) (hg : Gl X x) (hm : X.mg x = none) (hv : bootBuiltins x = some (.builtin id)) (ha : PA X (e :: es) (tOfA N W Es)) (hn : x ≠ "__name__") (hdb : (x == ("__debug__" : Str)) = false)
    (he : starEach (e :: es) X.env = (false, eval e X.env) :: starEach es X.env) (hpl : (backTo pos (starEach es X.env)).any (·.1) = false) : PE X (.Call (.Name x p) (e :: es) [] pos) (tOf N W fun σ => bnd (Es σ) f) :=
  (pe_callB hr hg hm hv ha hn hdb he hpl).imp fun σ H Q ⟨L, ρ, h, σT, S, E, o⟩ => ofBndA S E o fun x H1 ρ1 t h1 s1 S1 E1 r1 o1 => ⟨_, L, ρ1, h1, t, S1, r1, o1⟩
theorem pe_tcallTy {id : String} {f : List T → M T} (hr : CallR X (.type id) (rN N f)) (hg : Gl X x) (hm : X.mg x = none) (hv : bootBuiltins x = some (.type id)) (ha : PA X (e :: es) (tOfA N W Es)) (hn : x ≠ "__name__") (hdb : (x == ("__debug__" : Str)) = false)
    (he : starEach (e :: es) X.env = (false, eval e X.env) :: starEach es X.env) (hpl : (backTo pos (starEach es X.env)).any (·.1) = false) : PE X (.Call (.Name x p) (e :: es) [] pos) (tOf N W fun σ => bnd (Es σ) f) :=
  (pe_callTy hr hg hm hv ha hn hdb he hpl).imp fun σ H Q ⟨L, ρ, h, σT, S, E, o⟩ => ofBndA S E o fun x H1 ρ1 t h1 s1 S1 E1 r1 o1 => ⟨_, L, ρ1, h1, t, S1, r1, o1⟩
/-- isinstance(a, C) -/
theorem ok_isiR {t : Ty} (ht : tyOk N t) (hK : X.K = N.K) : CallR X (.builtin "isinstance") (fun xs H Q => ∃ x, xs = [x, tyV N t] ∧ r1 N (isiM t) x H Q) := by
  intro pins s σ H xs us Q I r ⟨x, e, q⟩
  subst e
  obtain ⟨u1, u2, rfl, h1, h2⟩ := vals2 r
  have e2 := (ty_cls (N := N) t).eq h2
  subst e2
  exact ok_isi ht pins s σ H x u1 Q I h1 hK q
theorem pe_tisi {t : Ty} (ht : tyOk N t) (hK : X.K = N.K) (hg : Gl X "isinstance") (hm : X.mg "isinstance" = none) (ha : PE X a (tOf N W Ea)) (hc : PE X c (tC (tyV N t)))
    (he : starEach [a, c] X.env = (false, eval a X.env) :: starEach [c] X.env) (he2 : starEach [c] X.env = (false, eval c X.env) :: starEach [] X.env) : PE X (.Call (.Name "isinstance" p) [a, c] [] pos) (tOf N W fun σ => bnd (Ea σ) (isiM t)) :=
  (pe_callB (ok_isiR ht hK) hg hm (by decide +kernel) (pa_cons ha (pa_cons hc pa_nil he2) he) (by decide) (by decide) he (by rw [he2] <;> rfl)).imp fun σ H Q ⟨L, ρ, h, σT, S, E, o⟩ => ofBnd S E o fun x H1 ρ1 t h1 s1 S1 E1 r1 o1 =>
    ⟨x, rfl, _, L, ρ1, h1, t, S1, r1, o1⟩
/-! ### methods -/
theorem bmC_rep {α β : Type} {rl : Rl α β} {Wx : XK} {L : Al} {ρ : Ro} {H : Hp} {h : Sto} {pm : Bm} {t : T} {x : V} {f : Unit → M α} {Q : β → Hp → Prop} (hK : X.K = N.K) (S : StoOk N L ρ H h) (r : Rep N L ρ H t x) (o : Out N rl Wx L ρ H (bnd (bmC pm t) f h) Q) : L2.tyV X.K "list" x H ∧ Out N rl Wx L ρ H (f () h) Q := by
  cases t with
  | ref n =>
    obtain ⟨a, rfl, q⟩ := r
    have o' : Out N rl Wx L ρ H (Mt.bnd (Mt.getO n) (fun u => Mt.bnd (match u with
      | O.lst _ => Mt.ret ()
      | _ => Mt.no) f) h) Q := by
      rw [← bnd_assoc]
      exact o
    obtain ⟨u, w, o2⟩ := o'.getO
    cases u with
    | lst xs =>
      obtain ⟨ys, hl, _⟩ := S.lst w q
      exact ⟨.inl ⟨rfl, ys, .inl (.inl hl)⟩, o2⟩
    | _ => exact o2.no.elim
  | _ => exact o.no.elim
def bmN : Bm → Str
  | .append => "append"
  | .extend => "extend"
  | .pop => "pop"
theorem pe_tbm1 {pm : Bm} {apos : Pos} (hK : X.K = N.K) (slot : Slot "list" (bmN pm) (bmI pm)) (hty : typeOf (.builtin (bmI pm)) = pure (.type "method_descriptor")) (ho : PE X a (tOf N W Ea)) (ha : PA X (e :: es) (tOfA N W Es))
    (hbase : attributeBase a (bmN pm) X.env (eval a X.env) = eval a X.env)
    (hfew : ((backTo pos (starEach (e :: es) X.env)).all (fun x => !x.1) && (backToKw pos (keywordEach [] X.env)).all (fun x => x.1.isSome)
      && decide ((e :: es).length + ([] : List Keyword).length + (if ([] : List Keyword).isEmpty then 0 else 1) < 30)) = true)
    (hline : (apos.endLine == pos.line) = true) (hs : starEach (e :: es) X.env = (false, eval e X.env) :: starEach es X.env) (hplain : (backTo pos (starEach es X.env)).any (·.1) = false) :
    PE X (.Call (.Attribute a (bmN pm) apos) (e :: es) [] pos) (tOf N W fun σ => bnd (Ea σ) fun x => bnd (bmC pm x) fun _ => bnd (Es σ) fun vs => bmT pm x vs) :=
  (pe_bm PySem.F.plainAttrs_list slot hty (ok_bm hK pm) ho ha hbase hfew hline hs hplain).imp fun σ H Q ⟨L, ρ, h, σT, S, E, o⟩ => ofBnd S E o fun x H1 ρ1 t h1 s1 S1 E1 r1 o1 => by
    obtain ⟨ty, o1⟩ := bmC_rep hK S1 r1 o1
    exact ⟨ty, ofBndA S1 E1 o1 fun vs H2 ρ2 ts h2 s2 S2 E2 r2 o2 => ⟨_, L, ρ2, h2, t, ts, S2, r1.stp s2, r2, o2⟩⟩
theorem pe_tbm0 {pm : Bm} {apos : Pos} (hK : X.K = N.K) (slot : Slot "list" (bmN pm) (bmI pm)) (hty : typeOf (.builtin (bmI pm)) = pure (.type "method_descriptor")) (ho : PE X a (tOf N W Ea))
    (hbase : attributeBase a (bmN pm) X.env (eval a X.env) = eval a X.env) (hline : (apos.endLine == pos.line) = true) :
    PE X (.Call (.Attribute a (bmN pm) apos) [] [] pos) (tOf N W fun σ => bnd (Ea σ) fun x => bnd (bmC pm x) fun _ => bmT pm x []) :=
  (pe_bm0 PySem.F.plainAttrs_list slot hty (ok_bm hK pm) ho hbase hline).imp fun σ H Q ⟨L, ρ, h, σT, S, E, o⟩ => ofBnd S E o fun x H1 ρ1 t h1 s1 S1 E1 r1 o1 => by
    obtain ⟨ty, o1⟩ := bmC_rep hK S1 r1 o1
    exact ⟨ty, _, L, ρ1, h1, t, [], S1, r1, (show Reps N L ρ1 H1 [] [] from rfl), o1⟩
/-! ### tests -/
variable {Ba Bb : Env → M Bool} {rest : List Expr}
theorem pt_tplain (hK : X.K = N.K) (ha : PE X a (tOf N W Ea)) (he : ∀ whole, isTrue a X.env whole = (do let v ← whole; standAt a.pos; holding [v] (truthy v))) : PT X a (tOfB N W fun σ => bnd (Ea σ) truT) :=
  (pt_truthR ha (ok_tru hK) he).imp fun σ H Q ⟨L, ρ, h, σT, S, E, o⟩ => ofBnd S E o fun x H1 ρ1 t h1 s1 S1 E1 r1 o1 => ⟨_, L, ρ1, h1, t, S1, r1, o1⟩
theorem pt_tnot (ha : PT X a (tOfB N W Ba)) : PT X (.UnaryOp .Not a pos) (tOfB N W fun σ => bnd (Ba σ) fun b => ret (!b)) :=
  (pt_not ha).imp fun σ H Q ⟨L, ρ, h, σT, S, E, o⟩ => ofBndB S E o fun x H1 ρ1 h1 s1 S1 E1 o1 => o1.ret S1 rfl
theorem pw_tand (ha : PT X a (tOfB N W Ba)) (hb : PW X (.BoolOp .And (b :: rest) pos) (tOfB N W Bb)) : PW X (.BoolOp .And (a :: b :: rest) pos) (tOfB N W fun σ => bnd (Ba σ) fun t => if t then Bb σ else ret false) :=
  (pw_and ha hb).imp fun σ H Q ⟨L, ρ, h, σT, S, E, o⟩ => ofBndB S E o fun x H1 ρ1 h1 s1 S1 E1 o1 => by
    cases x with
    | true => exact ⟨L, ρ1, h1, σT, S1, E1, o1⟩
    | false => exact o1.ret S1 rfl
theorem pw_tor (ha : PT X a (tOfB N W Ba)) (hb : PW X (.BoolOp .Or (b :: rest) pos) (tOfB N W Bb)) : PW X (.BoolOp .Or (a :: b :: rest) pos) (tOfB N W fun σ => bnd (Ba σ) fun t => if t then ret true else Bb σ) :=
  (pw_or ha hb).imp fun σ H Q ⟨L, ρ, h, σT, S, E, o⟩ => ofBndB S E o fun x H1 ρ1 h1 s1 S1 E1 o1 => by
    cases x with
    | true => exact o1.ret S1 rfl
    | false => exact ⟨L, ρ1, h1, σT, S1, E1, o1⟩
/-- the tests of a comprehension's clause -/
theorem pts_tnil : PTs X [] (tOfB N W fun _ => ret true) := ⟨fun pins s σ H Q I ⟨L, ρ, h, σT, S, E, o⟩ => pts_nil.run pins s σ H Q I (o.ret S rfl)⟩
end
end Mt

set_option maxHeartbeats 8000000
/-! Mt7b: what is read goes over into another state. -/
namespace Mt
open PySem PySem.Spec PyProof.Rows L2

/-- what is read goes over into another state -/
structure Mv (N : Nm) (L : Al) (ρ : Ro) (H : Hp) (L' : Al) (ρ' : Ro) (H' : Hp) : Prop where
  fz : ∀ a o, H a = some o → Fz L ρ a → Fz L' ρ' a
  kp : ∀ a o, H a = some o → Fz L ρ a → H' a = some o
  st : ∀ a o, H a = some o → ¬ Lv (some o) → H' a = some o
  rf : ∀ i a, ρ i = some a → ρ' i = some a
section
variable {N : Nm} {L L' : Al} {ρ ρ' : Ro} {H H' : Hp}
theorem Mv.sqT (s : Mv N L ρ H L' ρ' H') {a : Addr} {ys : List V} (e : SqT N.K H a ys) : SqT N.K H' a ys := by
  rcases e with (e | ⟨o, e⟩) | e
  · exact .inl (.inl (s.st a _ e id))
  · exact .inl (.inr ⟨o, s.st a _ e id⟩)
  · exact .inr e
theorem Mv.scrL (s : Mv N L ρ H L' ρ' H') {K : PySem.W.Frag} {a : Addr} {ys : List V} (e : ScrL K H a ys) : ScrL K H' a ys := by
  rcases e with ⟨o, e⟩ | e
  · exact .inl ⟨o, s.st a _ e id⟩
  · exact .inr e
theorem Mv.dicV (s : Mv N L ρ H L' ρ' H') {a : Addr} {ks : List T} {ys : List V} (f : Fz L ρ a) (d : DicV H a ks ys) : DicV H' a ks ys := by
  rcases d with ⟨kk, e1, e2, e⟩ | ⟨kk, e1, e2, e⟩
  · exact .inl ⟨kk, e1, e2, s.kp a _ e f⟩
  · exact .inr ⟨kk, e1, e2, s.kp a _ e f⟩
theorem Mv.insV (s : Mv N L ρ H L' ρ' H') {a : Addr} {c : Nat} {fs : List Nat} {ys : List V} (f : Fz L ρ a) (d : InsV N H a c fs ys) : InsV N H' a c fs ys := by
  obtain ⟨dx, e, e2, l⟩ := d
  exact ⟨dx, s.kp a _ e f, s.st dx _ e2 id, l⟩
mutual
theorem Rep.mv (s : Mv N L ρ H L' ρ' H') : ∀ {t : T} {v : V}, Rep N L ρ H t v → Rep N L' ρ' H' t v
  | .non, _, h => h
  | .bl _, _, h => h
  | .int _, _, h => h
  | .str _, _, h => h
  | .byt _, _, h => h
  | .tup xs, _, ⟨a, ys, e, q, r⟩ => ⟨a, ys, e, s.sqT q, Reps.mv s r⟩
  | .lst xs, _, ⟨a, ys, e, f, q, r⟩ => ⟨a, ys, e, s.fz a _ q f, s.kp a _ q f, Reps.mv s r⟩
  | .dic ks vs, _, ⟨a, ys, e, f, q, r⟩ => ⟨a, ys, e, let ⟨_, z⟩ := q.some; s.fz a _ z f, s.dicV f q, Reps.mv s r⟩
  | .obj c fs vs, _, ⟨a, ys, e, f, q, r⟩ => ⟨a, ys, e, let ⟨_, z, _⟩ := q; s.fz a _ z f, s.insV f q, Reps.mv s r⟩
  | .ref n, _, ⟨a, e, q⟩ => ⟨a, e, s.rf n a q⟩
  | .scr ns, _, ⟨a, e, q⟩ => ⟨a, e, s.scrL q⟩
theorem Reps.mv (s : Mv N L ρ H L' ρ' H') : ∀ {ts : List T} {vs : List V}, Reps N L ρ H ts vs → Reps N L' ρ' H' ts vs
  | [], _, h => h
  | _ :: _, _, ⟨y, zs, e, r, q⟩ => ⟨y, zs, e, Rep.mv s r, Reps.mv s q⟩
end
theorem RepO.mv (s : Mv N L ρ H L' ρ' H') {a : Addr} {o : O} (k : ∀ u, H a = some u → H' a = some u) (r : RepO N L ρ H a o) : RepO N L' ρ' H' a o := by
  cases o with
  | lst xs => obtain ⟨ys, e, q⟩ := r; exact ⟨ys, k _ e, q.mv s⟩
  | dic ks vs =>
    obtain ⟨ys, e, q⟩ := r
    refine ⟨ys, ?_, q.mv s⟩
    rcases e with ⟨kk, e1, e2, e⟩ | ⟨kk, e1, e2, e⟩
    · exact .inl ⟨kk, e1, e2, k _ e⟩
    · exact .inr ⟨kk, e1, e2, k _ e⟩
  | ins c fs vs => obtain ⟨ys, ⟨dx, e, e2, l⟩, q⟩ := r; exact ⟨ys, ⟨dx, k _ e, s.st dx _ e2 id, l⟩, q.mv s⟩
theorem ERel.mv (s : Mv N L ρ H L' ρ' H') {σT : Env} {σ : L2.St} (E : ERel N L ρ H σT σ) : ERel N L' ρ' H' σT σ := ⟨E.1, fun i t e => let ⟨v, h1, h2⟩ := E.2 i t e; ⟨v, h1, h2.mv s⟩⟩
theorem Mv.trans {L2' : Al} {ρ2 : Ro} {H2 : Hp} (a : Mv N L ρ H L' ρ' H') (b : Mv N L' ρ' H' L2' ρ2 H2) : Mv N L ρ H L2' ρ2 H2 :=
  ⟨fun x o e f => b.fz x o (a.kp x o e f) (a.fz x o e f), fun x o e f => b.kp x o (a.kp x o e f) (a.fz x o e f), fun x o e n => b.st x o (a.st x o e n) n, fun i x e => b.rf i x (a.rf i x e)⟩
theorem Stp.mv (s : Stp ρ H ρ' H') : Mv N L ρ H L ρ' H' := ⟨fun a o e f => s.fz e f, fun a o e f => s.keep a o e f.2, fun a o e n => s.at e n, s.ref⟩
theorem Mv.refl : Mv N L ρ H L ρ H := ⟨fun _ _ _ f => f, fun _ _ e _ => e, fun _ _ e _ => e, fun _ _ e => e⟩
/-- and D -/
abbrev wD (L : Al) (D : Addr) : Al := fun a => L a ∨ a = D
variable {h : Sto} {D : Addr} {o : HO}
/-- a new thing that is locked -/
theorem mv_own (S : StoOk N L ρ H h) (n : H D = none) : Mv N L ρ H (wD L D) ρ (upd H D o) where
  fz := fun a u e f => ⟨fun z => z.elim f.1 fun z => (by rw [z, n] at e; cases e), f.2⟩
  kp := fun a u e _ => by rw [upd_ne (ne_of_none e n)]; exact e
  st := fun a u e _ => by rw [upd_ne (ne_of_none e n)]; exact e
  rf := fun _ _ e => e
theorem StoOk.own (S : StoOk N L ρ H h) (n : H D = none) : StoOk N (wD L D) ρ (L2.upd H D o) h :=
  ⟨S.inj, S.dom, fun i u e => let ⟨a, e1, r⟩ := S.obj i u e; ⟨a, e1, r.mv (mv_own (o := o) S n) fun u e => by rw [upd_ne (ne_of_none e n)]; exact e⟩, fun a l => by
    rcases l with l | l
    · refine ⟨?_, (S.out a l).2⟩
      rw [upd_ne fun z => (S.out a l).1 (by rw [z]; exact n)]
      exact (S.out a l).1
    · rw [l]
      exact ⟨by rw [upd_same]; simp, ne_ref S n⟩⟩
/-- the locked list is changed -/
theorem mv_put {xs : List V} (l : L D) (e : H D = some (.lst xs)) : Mv N L ρ H L ρ (upd H D o) where
  fz := fun a u e f => f
  kp := fun a u e f => by rw [upd_ne fun z => f.1 (by rw [z]; exact l)]; exact e
  st := fun a u e2 n => by rw [upd_ne fun z => by rw [z, e] at e2; cases e2; exact n trivial]; exact e2
  rf := fun _ _ e => e
theorem StoOk.put {xs : List V} (S : StoOk N L ρ H h) (l : L D) (e : H D = some (.lst xs)) : StoOk N L ρ (L2.upd H D o) h :=
  ⟨S.inj, S.dom, fun i u e1 => let ⟨a, e2, r⟩ := S.obj i u e1; ⟨a, e2, r.mv (mv_put (o := o) l e) fun u e3 => by rw [upd_ne fun z => (S.out D l).2 i (by rw [← z]; exact e2)]; exact e3⟩, fun a l' => ⟨by
    by_cases q : a = D
    · rw [q, upd_same]; simp
    · rw [upd_ne q]; exact (S.out a l').1, (S.out a l').2⟩⟩
/-- no longer locked -/
theorem mv_un : Mv N (wD L D) ρ H L ρ H := ⟨fun a u e f => ⟨fun z => f.1 (.inl z), f.2⟩, fun a u e _ => e, fun a u e _ => e, fun _ _ e => e⟩
theorem StoOk.un (S : StoOk N (wD L D) ρ H h) : StoOk N L ρ H h :=
  ⟨S.inj, S.dom, fun i u e => let ⟨a, e1, r⟩ := S.obj i u e; ⟨a, e1, r.mv mv_un fun u e => e⟩, fun a l => S.out a (.inl l)⟩
/-- .. but of the store -/
theorem mv_sto {k : Nat} (S : StoOk N (wD L D) ρ H h) (hk : k = h.length) : Mv N (wD L D) ρ H L (rIns ρ k D) H where
  fz := fun a u e f => ⟨fun z => f.1 (.inl z), fun i q => by
    unfold rIns at q
    split at q
    · cases q; exact f.1 (.inr rfl)
    · exact f.2 i q⟩
  kp := fun a u e _ => e
  st := fun a u e _ => e
  rf := fun i a e => by
    have := S.dom i a e
    rw [rIns_old (by omega)]; exact e
theorem StoOk.sto {xs : List T} {ys : List V} (S : StoOk N (wD L D) ρ H h) (nl : ¬ L D) (e : H D = some (.lst ys)) (r : Reps N (wD L D) ρ H xs ys) : StoOk N L (rIns ρ h.length D) H (h ++ [.lst xs]) where
  inj := fun i j a e1 e2 => by
    unfold rIns at e1 e2
    split at e1
    · split at e2
      · omega
      · cases e1; exact ((S.out D (.inr rfl)).2 j e2).elim
    · split at e2
      · cases e2; exact ((S.out D (.inr rfl)).2 i e1).elim
      · exact S.inj i j a e1 e2
  dom := fun i a e1 => by
    rw [List.length_append]
    unfold rIns at e1
    split at e1
    · show i < h.length + 1; omega
    · exact Nat.lt_succ_of_lt (S.dom i a e1)
  obj := fun i u e1 => by
    by_cases q : i < h.length
    · rw [List.getElem?_append_left q] at e1
      obtain ⟨a, e2, ro⟩ := S.obj i u e1
      exact ⟨a, by rw [rIns_old (by omega)]; exact e2, ro.mv (mv_sto S rfl) fun u e => e⟩
    · have hi : i = h.length := by
        have := (List.getElem?_eq_some_iff.mp e1).1
        rw [List.length_append] at this
        have : i < h.length + 1 := this
        omega
      subst hi
      rw [List.getElem?_append_right (Nat.le_refl _), Nat.sub_self] at e1
      cases e1
      exact ⟨D, rIns_new, ys, e, r.mv (mv_sto S rfl)⟩
  out := fun a l => ⟨(S.out a (.inl l)).1, fun i q => by
    unfold rIns at q
    split at q
    · cases q; exact nl l
    · exact (S.out a (.inl l)).2 i q⟩
end
end Mt

set_option maxHeartbeats 8000000
/-! Mt8e: enumerate over a list or a tuple from any count; zip of lists and tuples in any mix. -/
namespace PySem
open Sem (wp)
theorem meets_enumerate_new1 {v : Value} {o : Obj} {H : Heap → Prop} (B : Begins v o H) :
    Meets (Builtin.«enumerate.__new__» ⟨[.type "enumerate", v], []⟩) (fun _ R s => H s.heap ∧
      R (.ok (.ret (.ref (s.heap.push o).objs.size))) { s with heap := (s.heap.push o).push { cls := .type "enumerate", data := .fields #[.none, .bool false, .ref s.heap.objs.size, rawInt 0, .none, .none] } }) :=
  .of_wp fun prog w A R s h => by
    obtain ⟨hp, g, d, tk, os⟩ := s; obtain ⟨h1, h⟩ := h
    have hsub := sub_enumerate
    have q1 : ∀ {A' : Around} {E : Value → Shared → Prop} {Q : Value → Shared → Prop}, Q (.ref hp.objs.size) ⟨hp.push o, g, d, tk, os⟩ → wpAny (model prog w) A' (pyIter v) Q E ⟨hp, g, d, tk, os⟩ :=
      fun q => B.iter prog w _ _ ⟨hp, g, d, tk, os⟩ _ h1 q
    wp_walk
    refine wpAny_stack_any fun st => wpAny_pure ?_
    split
    · rename_i c _ _ _ _ _
      cases (c == Value.type "enumerate")
      · wp_walk using q1
        exact ⟨_, rfl, h⟩
      · wp_walk using q1
        exact ⟨_, rfl, h⟩
    · wp_walk using q1
      exact ⟨_, rfl, h⟩
section
variable {prog : Program} {w : World} {A : Around} {E : Value → Shared → Prop} {s : Shared}
theorem enum_begins1 {v : Value} {o : Obj} {H : Heap → Prop} {Q : Value → Shared → Prop} (B : Begins v o H) (h1 : H s.heap)
    (h : ∀ h', IsEnum h' (s.heap.objs.size + 1) s.heap.objs.size 0 .none → h'.get? s.heap.objs.size = some o → h'.objs.size = s.heap.objs.size + 2 →
      (∀ b o, s.heap.get? b = some o → h'.get? b = some o) → Q (.ref (s.heap.objs.size + 1)) { s with heap := h' }) :
    wpAny (model prog w) A (call (.type "enumerate") [v]) Q E s := by
  refine callType_new F.called_enumerate (by decide) (F.typeCall_enumerate_1 _) (F.newCall_enumerate_1 _) (fun obj => F.args_object_init_2 obj _) F.entry_enumerate_new
    (meets_enumerate_new1 B) ⟨h1, ?_⟩
  have hz : (s.heap.push o).objs.size = s.heap.objs.size + 1 := Heap.size_push ..
  show _ ∧ _
  rw [hz]
  have he : IsEnum ((s.heap.push o).push { cls := .type "enumerate", data := .fields #[.none, .bool false, .ref s.heap.objs.size, rawInt 0, .none, .none] }) (s.heap.objs.size + 1) s.heap.objs.size 0 .none := by
    have := Heap.get?_push_size (s.heap.push o) (o := { cls := .type "enumerate", data := .fields #[.none, .bool false, .ref s.heap.objs.size, rawInt 0, .none, .none] }) rfl
    rw [hz] at this; exact this
  refine ⟨⟨_, he, rfl⟩, h _ he (Heap.get?_push_of_some _ (Heap.get?_push_size _ B.free)) (by rw [Heap.size_push, hz]) fun b o x => Heap.get?_push_of_some _ (Heap.get?_push_of_some _ x)⟩
end
end PySem
namespace L2
open PySem PySem.Spec PyProof.Rows
/-- a list or a tuple -/
def SqB (b : Bool) (K : PySem.W.Frag) (H : Hp) (a : Addr) (xs : List V) : Prop := match b with
  | false => SqL K H a xs
  | true => SqT K H a xs
def ItB (b : Bool) (h : Heap) (it a : Addr) (i : Nat) : Prop := match b with
  | false => h.IsListIter it a i
  | true => h.IsTupleIter it a i
def OnB (b : Bool) (h : Heap) (a : Addr) (items : Array Value) : Prop := match b with
  | false => h.IsList a items
  | true => h.IsTuple a items
def bgO (b : Bool) (a : Addr) : Obj := match b with
  | false => { cls := .type "list_iterator", data := .fields #[.ref a, .int 0 0] }
  | true => { cls := .type "tuple_iterator", data := .fields #[.ref a, .int 0 0] }
theorem bgB (b : Bool) (a : Addr) (items : Array Value) : Begins (.ref a) (bgO b a) fun h => OnB b h a items := match b with
  | false => begins_list a items
  | true => begins_tuple a items
theorem ItB.obj {b : Bool} {h : Heap} {it a : Addr} {i : Nat} (x : ItB b h it a i) : ∃ o, h.get? it = some o ∧ ∀ v, o.data ≠ .cell v := by
  cases b <;> (obtain ⟨o, e, _, d⟩ := x; exact ⟨o, e, fun v z => by rw [d] at z; cases z⟩)
theorem ItB.at {b : Bool} {h h' : Heap} {it a : Addr} {i : Nat} (x : ItB b h it a i) (k : ∀ o, h.get? it = some o → h'.get? it = some o) : ItB b h' it a i := by
  cases b
  · exact Heap.IsListIter.at x k
  · exact Heap.IsTupleIter.at x k
theorem itB_new {b : Bool} {h' : Heap} {it a : Addr} (e : h'.get? it = some (bgO b a)) : ItB b h' it a 0 := by
  cases b <;> exact ⟨_, e, rfl, rfl⟩
theorem drB {prog : Program} {w : World} {A : Around} (b : Bool) (hh : A.handled = none) (it a : Addr) (hne : a ≠ it) (items : Array Value) : Draws prog w A it [it, a] items.size (fun i v => items[i]? = some v) (fun i h => ItB b h it a i ∧ OnB b h a items) := match b with
  | false => Draws.list hh it a hne items
  | true => Draws.tuple hh it a hne items
section
variable {X : Cx} {pins : List (Addr × Obj)} {σ : St} {H : Hp} {s : Shared} {a : Addr} {xs ys : List V} {b : Bool}
theorem Inv.sqB (I : Inv X pins σ H s) (h : SqB b X.K H a xs) : ∃ its : List Value, Vals xs its ∧ OnB b s.heap a its.toArray := by
  cases b
  · obtain ⟨its, r, p, _⟩ := I.list h
    exact ⟨its, r, p.isList⟩
  · obtain ⟨its, r, p, _⟩ := I.tuple h
    exact ⟨its, r, p⟩
theorem Inv.sqB_inj (I : Inv X pins σ H s) (h : SqB b X.K H a xs) (h' : SqB b X.K H a ys) : xs = ys := by
  cases b
  · exact I.list_inj h h'
  · exact I.tuple_inj h h'
theorem OnB.lt {h : Heap} {items : Array Value} (x : OnB b h a items) : a < h.objs.size := by
  cases b <;> (obtain ⟨o, e, _⟩ := x; exact Heap.lt_size e)
end
/-! ### enumerate -/
def Ieb (b : Bool) (k0 : Int) (K : PySem.W.Frag) (a : Addr) : It :=
  ⟨fun i H => ∃ (xs : List V) (x : V), SqB b K H a xs ∧ xs[i]? = some x, fun i H v H' => ∃ T x, v = .ref T ∧ H T = none ∧ H' = upd H T (.tup [.int (k0 + (i : Nat)), x]) ∧ ∀ xs, SqB b K H a xs → xs[i]? = some x,
    fun i H => ∃ xs : List V, SqB b K H a xs ∧ xs.length = i⟩
theorem turn_enumB {P : Program} {w : World} {K : PySem.W.Frag} {elts : List Expr} {kk : Nat} {tpos : Pos} (b : Bool) (k0 : Int) (a e it : Addr) :
    Turn P w K (.Tuple elts kk tpos) (Ieb b k0 K a) [e, it] e (fun i h => (∃ old, IsEnum h e it (k0 + ((i : Nat) : Int)) old) ∧ ItB b h it a i ∧ e ≠ it ∧ a ≠ it ∧ a ≠ e) where
  mem := by simp
  obj := fun i h st b hb => by
    obtain ⟨⟨old, he⟩, hi, _⟩ := st
    have e' : b = e ∨ b = it := by simpa using hb
    rcases e' with z | z
    · rw [z]; exact ⟨_, he, fun v q => nomatch q⟩
    · rw [z]; exact hi.obj
  keep := fun i h h' st k => let ⟨⟨old, he⟩, hi, hne⟩ := st; ⟨⟨old, k e (by simp) _ he⟩, hi.at fun o q => k it (by simp) o q, hne⟩
  item := by
    intro X hP hw hK hc i pins s σ H E I hf st hg
    subst hP hw hK
    obtain ⟨⟨old, he⟩, hit, hne, ha1, ha2⟩ := st
    obtain ⟨xs, x, hq, hx⟩ := hg
    obtain ⟨its, rv, p⟩ := I.sqB hq
    obtain ⟨u, hu, ru⟩ := rv.get hx
    have hel : e < s.heap.objs.size := Heap.lt_size he
    have hil : it < s.heap.objs.size := by obtain ⟨_, q, _⟩ := hit.obj; exact Heap.lt_size q
    have hi : i < its.toArray.size := by
      have := (List.getElem?_eq_some_iff.mp hu).1
      simpa using this
    have D := drB (prog := X.prog) (w := X.w) (A := X.A.in1) b (I.ok.hd hc) it a ha1 its.toArray
    refine wpAny_pyNext_enum_itemC (n := its.toArray.size) D he ⟨hit, p⟩ hi hne (by simp only [List.mem_cons, List.not_mem_nil, or_false, not_or]; exact ⟨hne, Ne.symm ha2⟩) fun v h' tk hv ho hit' hT hsz hk => ?_
    have ev : v = u := by
      have hv' : its.toArray[i]? = some v := hv
      have : its[i]? = some v := by simpa using hv'
      rw [hu] at this; exact (Option.some.inj this).symm
    subst ev
    refine ⟨_, rfl, wpAny_letOwnedTupleGo_enum (s := { s with heap := h', toks := tk + 1 }) ho fun h'' he' sb => ?_⟩
    have hT2 : h''.get? s.heap.objs.size = some { cls := .type "tuple", data := .seq #[.int (k0 + (i : Int)) tk, v] } := (sb.2 _ (Nat.ne_of_gt hel)).trans hT
    have new : ObjOk X.prog X.w (upd H s.heap.objs.size (.tup [.int (k0 + (i : Nat)), x])) h'' s.heap.objs.size (.tup [.int (k0 + (i : Nat)), x]) :=
      ⟨by show 2 ≤ sizeLine; decide, [.int (k0 + (i : Int)) tk, v], .cons ⟨_, rfl⟩ (.cons ru .nil), ⟨_, hT2, rfl, _, rfl⟩⟩
    have I1 : Inv X pins σ (upd H s.heap.objs.size (.tup [.int (k0 + (i : Nat)), x])) { s with heap := h'', toks := tk + 1 } :=
      I.turnedNew (ch := [e, it]) (fun b ob hb q => (sb.2 b (fun z => hb (by simp [z]))).trans (hk b ob (fun z => hb (by simp [z])) (fun z => hb (by simp [z])) q)) hf (Nat.le_refl _) new
    refine ⟨.ref s.heap.objs.size, _, I1, rfl, ⟨_, x, rfl, I.hok.fresh (Nat.le_refl _), rfl, fun ys hy => by rw [I.sqB_inj hy hq]; exact hx⟩, ⟨⟨v, ?_⟩, hit'.1.at fun o q => (sb.2 it (Ne.symm hne)).trans q, hne, ha1, ha2⟩, fun b hb => ?_⟩
    · have e1 : k0 + ((i + 1 : Nat) : Int) = k0 + (i : Int) + 1 := by omega
      rw [e1]; exact he'
    · have hb' : b < s.heap.objs.size := by
        have e' : b = e ∨ b = it := by simpa using hb
        rcases e' with z | z
        · rw [z]; exact hel
        · rw [z]; exact hil
      rw [upd_ne (Nat.ne_of_lt hb')]
      exact (hf b hb).1
  done := by
    intro X hP hw hK hc i pins s σ H E I hf st hg
    subst hP hw hK
    obtain ⟨⟨old, he⟩, hit, hne, ha1, ha2⟩ := st
    obtain ⟨xs, hq, hx⟩ := hg
    obtain ⟨its, rv, p⟩ := I.sqB hq
    obtain ⟨f0, f1, f2, f3, f4, f5⟩ := hf it (by simp)
    have hl := rv.length
    have hi : its.toArray.size = i := by simp; omega
    have D := drB (prog := X.prog) (w := X.w) (A := X.A.in1) b (I.ok.hd hc) it a ha1 its.toArray
    exact wpAny_pyNext_enum_endD D he (by rw [hi]; exact ⟨hit, p⟩) fun h' eb => ⟨rfl, I.turned (t' := s.toks) (fun b o hb q => eb b o hb q) f0 f1 f3 f4 f5⟩
  self := fun A i s Q E st h => let ⟨⟨_, he⟩, _⟩ := st; wpAny_pyIter_enum he h
def iEnumB (K : PySem.W.Frag) (k0 : Int) (ta : TA) : TI := fun σ H R => ta σ H fun vs H1 => ∃ a b xs, vs = [.ref a] ∧ SqB b K H1 a xs ∧ R (Ieb b k0 K a) H1
theorem fp_two {X : Cx} {pins : List (Addr × Obj)} {σ : St} {H : Hp} {s : Shared} (I : Inv X pins σ H s) : ∀ b ∈ [s.heap.objs.size + 1, s.heap.objs.size], FpOk X pins H b := fun b hb => by
  have e' : b = s.heap.objs.size + 1 ∨ b = s.heap.objs.size := by simpa using hb
  have hle : s.heap.objs.size ≤ b := by
    rcases e' with z | z
    · rw [z]; exact Nat.le_add_right _ _
    · rw [z]; exact Nat.le_refl _
  exact I.fpOk hle (I.hok.fresh hle)
theorem pi_enumB {X : Cx} {e : Expr} {ta : TA} {p pos tpos : Pos} {elts : List Expr} {kk : Nat} (hg : Gl X "enumerate") (hm : X.mg "enumerate" = none) (ha : PA X [e] ta) (hs : starEach [e] X.env = [(false, eval e X.env)]) :
    PI X (.Tuple elts kk tpos) (.Call (.Name "enumerate" p) [e] [] pos) (iEnumB X.K 0 ta) := by
  refine ⟨fun pins s σ H R I h => ?_⟩
  refine Call_ (ld_blt I hg hm boot_enumerate (PyProof.Rows.callWith_type1 (thn (ha.run pos pins s σ H _ I h) fun us s1 ⟨vs, H1, I1, r1, q1⟩ => ?_) hs rfl))
  obtain ⟨a, b, xs, ex, hq, q⟩ := q1
  subst ex
  cases r1 with
  | cons r rr =>
    cases rr
    cases r
    obtain ⟨its, rv, p'⟩ := I1.sqB hq
    have hlt := p'.lt
    refine enum_begins1 (bgB b a its.toArray) p' fun h' he hit hsz hk => wpAny_pyIter_enum he ?_
    have I2 : Inv X pins σ H1 { s1 with heap := h' } := I1.kept (t' := s1.toks) hk
    refine ⟨s1.heap.objs.size + 1, [s1.heap.objs.size + 1, s1.heap.objs.size], _, _, H1, rfl, I2, turn_enumB b 0 a (s1.heap.objs.size + 1) s1.heap.objs.size, ⟨⟨.none, ?_⟩, itB_new hit, Nat.succ_ne_self _, Nat.ne_of_lt hlt, Nat.ne_of_lt (Nat.lt_succ_of_lt hlt)⟩, fp_two I1, q⟩
    exact he
/-! ### zip -/
def Izb (b c : Bool) (K : PySem.W.Frag) (a d : Addr) : It :=
  ⟨fun i H => ∃ (xs ys : List V) (x y : V), SqB b K H a xs ∧ SqB c K H d ys ∧ xs[i]? = some x ∧ ys[i]? = some y,
    fun i H v H' => ∃ T x y, v = .ref T ∧ H T = none ∧ H' = upd H T (.tup [x, y]) ∧ (∀ xs, SqB b K H a xs → xs[i]? = some x) ∧ ∀ ys, SqB c K H d ys → ys[i]? = some y,
    fun i H => ∃ xs ys : List V, SqB b K H a xs ∧ SqB c K H d ys ∧ min xs.length ys.length = i⟩
theorem turn_zipB {P : Program} {w : World} {K : PySem.W.Frag} {elts : List Expr} {kk : Nat} {tpos : Pos} {z TI TO i1 i2 : Addr} (b c : Bool) (a d : Addr) (D : ZipSep2 z TI TO i1 i2 [i1, a] [i2, d]) (n1 : a ≠ i1) (n2 : d ≠ i2) :
    Turn P w K (.Tuple elts kk tpos) (Izb b c K a d) [z, TI, TO, i1, i2] z (fun i h => IsZip h z TI TO .none ∧ IsTupOf2 h TI (.ref i1) (.ref i2) ∧ (∃ a1 a2, IsTupOf2 h TO a1 a2) ∧ ItB b h i1 a i ∧ ItB c h i2 d i) where
  mem := by simp
  obj := fun i h st e hc => by
    obtain ⟨hz, hTI, ⟨x, y, hTO⟩, h1, h2⟩ := st
    have e' : e = z ∨ e = TI ∨ e = TO ∨ e = i1 ∨ e = i2 := by simpa using hc
    rcases e' with q | q | q | q | q
    · rw [q]; exact ⟨_, hz, fun v q => nomatch q⟩
    · rw [q]; exact ⟨_, hTI, fun v q => nomatch q⟩
    · rw [q]; exact ⟨_, hTO, fun v q => nomatch q⟩
    · rw [q]; exact h1.obj
    · rw [q]; exact h2.obj
  keep := fun i h h' st k => by
    obtain ⟨hz, hTI, ⟨x, y, hTO⟩, h1, h2⟩ := st
    exact ⟨k z (by simp) _ hz, k TI (by simp) _ hTI, ⟨x, y, k TO (by simp) _ hTO⟩, h1.at fun o q => k i1 (by simp) o q, h2.at fun o q => k i2 (by simp) o q⟩
  item := by
    intro X hP hw hK hc i pins s σ H E I hf st hg
    subst hP hw hK
    obtain ⟨hz, hTI, hTO, h1, h2⟩ := st
    obtain ⟨xs, ys, x, y, hqx, hqy, hx, hy⟩ := hg
    obtain ⟨its, rv, p⟩ := I.sqB hqx
    obtain ⟨its2, rv2, p2⟩ := I.sqB hqy
    obtain ⟨u, hu, ru⟩ := rv.get hx
    obtain ⟨u2, hu2, ru2⟩ := rv2.get hy
    have hi1 : i < its.toArray.size := by
      have := (List.getElem?_eq_some_iff.mp hu).1
      simpa using this
    have hi2 : i < its2.toArray.size := by
      have := (List.getElem?_eq_some_iff.mp hu2).1
      simpa using this
    have W := GoesN.zip2 (prog := X.prog) (w := X.w) (A := X.A) (elts := elts) (x1 := kk) (pos := tpos) D (drB (A := X.A.in1) b (I.ok.hd hc) i1 a n1 its.toArray) (drB (A := X.A.in1) c (I.ok.hd hc) i2 d n2 its2.toArray)
    have lt : ∀ e ∈ [z, TI, TO, i1, i2], e < s.heap.objs.size := fun e he => by
      obtain ⟨_, _, hTO⟩ := hTO
      have e' : e = z ∨ e = TI ∨ e = TO ∨ e = i1 ∨ e = i2 := by simpa using he
      rcases e' with q | q | q | q | q
      · rw [q]; exact Heap.lt_size hz
      · rw [q]; exact Heap.lt_size hTI
      · rw [q]; exact Heap.lt_size hTO
      · rw [q]; obtain ⟨_, e1, _⟩ := h1.obj; exact Heap.lt_size e1
      · rw [q]; obtain ⟨_, e2, _⟩ := h2.obj; exact Heap.lt_size e2
    refine thn (W.goes i s (fun v s2 => ∃ x H', Inv X pins σ H' s2 ∧ RelV x v ∧ (Izb b c X.K a d).yld i H x H' ∧ (IsZip s2.heap z TI TO .none ∧ IsTupOf2 s2.heap TI (.ref i1) (.ref i2) ∧ (∃ a1 a2, IsTupOf2 s2.heap TO a1 a2) ∧ ItB b s2.heap i1 a (i + 1) ∧ ItB c s2.heap i2 d (i + 1)) ∧ ∀ b ∈ [z, TI, TO, i1, i2], H' b = none) E (Nat.lt_min.mpr ⟨hi1, hi2⟩) ⟨hz, hTI, hTO, ⟨h1, p⟩, h2, p2⟩ ?_) fun r s1 q => q
    intro v h' tk ⟨T, v1, v2, ev, hT, g1, g2, ht⟩ st' hk _
    subst ev
    have e1 : v1 = u := by
      have g1 : its.toArray[i]? = some v1 := g1
      have : its[i]? = some v1 := by simpa using g1
      rw [hu] at this; exact (Option.some.inj this).symm
    have e2 : v2 = u2 := by
      have g2 : its2.toArray[i]? = some v2 := g2
      have : its2[i]? = some v2 := by simpa using g2
      rw [hu2] at this; exact (Option.some.inj this).symm
    subst e1 e2
    have new : ObjOk X.prog X.w (upd H T (.tup [x, y])) h' T (.tup [x, y]) := ⟨by show 2 ≤ sizeLine; decide, [v1, v2], .cons ru (.cons ru2 .nil), ht⟩
    have I1 : Inv X pins σ (upd H T (.tup [x, y])) { s with heap := h', toks := tk } :=
      I.turnedNew (ch := [z, TI, TO, i1, i2]) (fun e o hb q => hk e o (fun m => hb (by
        have m' : e = z ∨ e = TO ∨ e = i1 ∨ e = i2 := by simpa using m
        rcases m' with q | q | q | q <;> simp [q])) q) hf hT new
    obtain ⟨s1, s2, s3, s4, s5⟩ := st'
    refine ⟨.ref T, _, I1, rfl, ⟨T, x, y, rfl, I.hok.fresh hT, rfl, fun l hl => by rw [I.sqB_inj hl hqx]; exact hx, fun l hl => by rw [I.sqB_inj hl hqy]; exact hy⟩, ⟨s1, s2, s3, s4.1, s5.1⟩, fun e he => ?_⟩
    rw [upd_ne (Nat.ne_of_lt (Nat.lt_of_lt_of_le (lt e he) hT))]
    exact (hf e he).1
  done := by
    intro X hP hw hK hc i pins s σ H E I hf st hg
    subst hP hw hK
    obtain ⟨hz, hTI, hTO, h1, h2⟩ := st
    obtain ⟨xs, ys, hqx, hqy, hend⟩ := hg
    obtain ⟨its, rv, p⟩ := I.sqB hqx
    obtain ⟨its2, rv2, p2⟩ := I.sqB hqy
    have l1 := rv.length
    have l2 := rv2.length
    have W := GoesN.zip2 (prog := X.prog) (w := X.w) (A := X.A) (elts := elts) (x1 := kk) (pos := tpos) D (drB (A := X.A.in1) b (I.ok.hd hc) i1 a n1 its.toArray) (drB (A := X.A.in1) c (I.ok.hd hc) i2 d n2 its2.toArray)
    have en : min its.toArray.size its2.toArray.size = i := by simp only [List.size_toArray]; omega
    refine W.stops s (fun s1 => Inv X pins σ H s1) E (by rw [en]; exact ⟨hz, hTI, hTO, ⟨h1, p⟩, h2, p2⟩) fun h' tk hk _ => ?_
    exact I.turnedL (t' := tk) (ch := [z, TI, TO, i1, i2]) (fun e o hb q => hk e o (fun m => hb (by
        have m' : e = z ∨ e = TO ∨ e = i1 ∨ e = i2 := by simpa using m
        rcases m' with q | q | q | q <;> simp [q])) q) hf
  self := fun A i s Q E st h => wpAny_pyIter_zip st.1 h
def iZipB (K : PySem.W.Frag) (ta : TA) : TI := fun σ H R => ta σ H fun vs H1 => ∃ a d b c xs ys, vs = [.ref a, .ref d] ∧ SqB b K H1 a xs ∧ SqB c K H1 d ys ∧ R (Izb b c K a d) H1
theorem pi_zipB {X : Cx} {e e2 : Expr} {ta : TA} {p pos tpos : Pos} {elts : List Expr} {kk : Nat} (hg : Gl X "zip") (hm : X.mg "zip" = none) (ha : PA X [e, e2] ta)
    (hs : starEach [e, e2] X.env = (false, eval e X.env) :: starEach [e2] X.env) (hpl : (backTo pos (starEach [e2] X.env)).any (·.1) = false) :
    PI X (.Tuple elts kk tpos) (.Call (.Name "zip" p) [e, e2] [] pos) (iZipB X.K ta) := by
  refine ⟨fun pins s σ H R I h => ?_⟩
  refine Call_ (ld_blt I hg hm PyProof.Rows.boot_zip (PyProof.Rows.callWith_type1 (thn (ha.run pos pins s σ H _ I h) fun us s1 ⟨vs, H1, I1, r1, q1⟩ => ?_) hs hpl))
  obtain ⟨a, d, b, c, xs, ys, ex, hqx, hqy, q⟩ := q1
  subst ex
  cases r1 with
  | cons r rr =>
    cases rr with
    | cons r' rr =>
      cases rr
      cases r
      cases r'
      have fresh5 : ∀ e, e ∈ [s1.heap.objs.size + 4, s1.heap.objs.size + 2, s1.heap.objs.size + 3, s1.heap.objs.size, s1.heap.objs.size + 1] → FpOk X pins H1 e := fun e hcm => by
        have e' : e = s1.heap.objs.size + 4 ∨ e = s1.heap.objs.size + 2 ∨ e = s1.heap.objs.size + 3 ∨ e = s1.heap.objs.size ∨ e = s1.heap.objs.size + 1 := by simpa using hcm
        have hle : s1.heap.objs.size ≤ e := by
          rcases e' with z | z | z | z | z
          · rw [z]; exact Nat.le_add_right _ _
          · rw [z]; exact Nat.le_add_right _ _
          · rw [z]; exact Nat.le_add_right _ _
          · rw [z]; exact Nat.le_refl _
          · rw [z]; exact Nat.le_add_right _ _
        exact I1.fpOk hle (I1.hok.fresh hle)
      obtain ⟨its, rv, p1⟩ := I1.sqB hqx
      obtain ⟨its2, rv2, p2⟩ := I1.sqB hqy
      have l1 := p1.lt
      have l2 := p2.lt
      refine zip_begins2 (bgB b a its.toArray) (bgB c d its2.toArray) p1 p2 fun h' hz hTI hTO g1 g2 hsz hk => wpAny_pyIter_zip hz ?_
      have I2 : Inv X pins σ H1 { s1 with heap := h' } := I1.kept (t' := s1.toks) hk
      have Sp := zip_sep2 (N := s1.heap.objs.size) (fp1 := [a]) (fp2 := [d]) (fun e he => by rw [List.mem_singleton.mp he]; exact l1) (fun e he => by rw [List.mem_singleton.mp he]; exact l2)
      exact ⟨s1.heap.objs.size + 4, [s1.heap.objs.size + 4, s1.heap.objs.size + 2, s1.heap.objs.size + 3, s1.heap.objs.size, s1.heap.objs.size + 1], _, _, H1, rfl, I2, turn_zipB b c a d Sp (Nat.ne_of_lt l1) (Nat.ne_of_lt (Nat.lt_succ_of_lt l2)), ⟨hz, hTI, ⟨_, _, hTO⟩, itB_new g1, itB_new g2⟩, fresh5, q⟩
end L2

set_option maxHeartbeats 8000000
/-! Mt8: what is walked. -/
namespace Mt
open PySem PySem.Spec PyProof.Rows L2

/-- a later state, maybe with more that is locked -/
structure Lat (N : Nm) (L : Al) (ρ1 : Ro) (H1 : Hp) (L' : Al) (ρ : Ro) (H : Hp) (h : Sto) : Prop where
  mv : Mv N L ρ1 H1 L' ρ H
  sto : StoOk N L' ρ H h
/-- what an iterator gives -/
structure IterOk (N : Nm) (L : Al) (ρ1 : Ro) (H1 : Hp) (J : It) (xs : List T) (g : M Unit) : Prop where
  go : ∀ L' ρ H h i, Lat N L ρ1 H1 L' ρ H h → g h = .ok () h → i < xs.length → J.go i H
  yld : ∀ L' ρ H h i, Lat N L ρ1 H1 L' ρ H h → g h = .ok () h → i < xs.length → ∀ x H', J.yld i H x H' → Stp ρ H ρ H' ∧ StoOk N L' ρ H' h ∧ ∃ t, xs[i]? = some t ∧ Rep N L' ρ H' t x
  stop : ∀ L' ρ H h, Lat N L ρ1 H1 L' ρ H h → g h = .ok () h → J.stop xs.length H
  gd : ∀ h, g h = .ok () h ∨ g h = .no
theorem still_gd (xs : List T) (t : T) (h : Sto) : stillT xs t h = .ok () h ∨ stillT xs t h = .no := by
  cases t with
  | ref n =>
    show (bnd (getO n) _ h = _) ∨ (bnd (getO n) _ h = _)
    unfold bnd getO
    cases h[n]? with
    | none => exact .inr rfl
    | some u =>
      cases u with
      | lst ys =>
        show ((if T.beqs ys xs then ret () else no) h = _) ∨ ((if T.beqs ys xs then ret () else no) h = _)
        split
        · exact .inl rfl
        · exact .inr rfl
      | _ => exact .inr rfl
  | _ => exact .inl rfl
section
variable {N : Nm} {L : Al} {ρ1 : Ro} {H1 : Hp}
/-- a list or a tuple as it stands later -/
theorem seq_later {h1 : Sto} {t : T} {p : Addr} {xs : List T} (S : StoOk N L ρ1 H1 h1) (r : Rep N L ρ1 H1 t (.ref p)) (e : itemsT t h1 = .ok xs h1) :
    ∃ b, ∀ L' ρ H h, Lat N L ρ1 H1 L' ρ H h → stillT xs t h = .ok () h → ∃ ys, SqB b N.K H p ys ∧ Reps N L' ρ H xs ys := by
  cases t with
  | tup zs =>
    cases (show R.ok zs h1 = R.ok xs h1 from e)
    obtain ⟨a, ys, e1, q, rr⟩ := r
    cases e1
    exact ⟨true, fun L' ρ H h l _ => ⟨ys, l.mv.sqT q, rr.mv l.mv⟩⟩
  | lst zs =>
    cases (show R.ok zs h1 = R.ok xs h1 from e)
    obtain ⟨a, ys, e1, f, q, rr⟩ := r
    cases e1
    exact ⟨false, fun L' ρ H h l _ => ⟨ys, .inl (.inl (l.mv.kp p _ q f)), rr.mv l.mv⟩⟩
  | scr ns =>
    cases (show R.ok (ns.map T.int) h1 = R.ok xs h1 from e)
    obtain ⟨a, e1, q⟩ := r
    cases e1
    exact ⟨false, fun L' ρ H h l _ => ⟨_, (l.mv.scrL q).sq, Reps.ints⟩⟩
  | ref n =>
    obtain ⟨a, e1, q⟩ := r
    cases e1
    refine ⟨false, fun L' ρ H h l g => ?_⟩
    have g' : bnd (getO n) (fun u => match u with
      | .lst ys => if T.beqs ys xs then ret () else no
      | _ => no) h = R.ok () h := g
    unfold bnd getO at g'
    cases w : h[n]? with
    | none => rw [w] at g'; cases g'
    | some u =>
      rw [w] at g'
      cases u with
      | lst zs =>
        have g2 : (if T.beqs zs xs then ret () else no : M Unit) h = R.ok () h := g'
        split at g2
        · rename_i hb
          cases T.beqs_eq hb
          obtain ⟨ys, hl, rr⟩ := l.sto.lst w (l.mv.rf n p q)
          exact ⟨ys, .inl (.inl hl), rr⟩
        · cases g2
      | _ => cases g'
  | _ => cases e
def Isb (b : Bool) (K : PySem.W.Frag) (a : Addr) : It := match b with
  | false => Itl K a
  | true => Itt K a
theorem iter_seq {b : Bool} {xs : List T} {g : M Unit} {p : Addr} (hg : ∀ h, g h = .ok () h ∨ g h = .no)
    (f : ∀ L' ρ H h, Lat N L ρ1 H1 L' ρ H h → g h = .ok () h → ∃ ys, SqB b N.K H p ys ∧ Reps N L' ρ H xs ys) : IterOk N L ρ1 H1 (Isb b N.K p) xs g := by
  refine ⟨fun L' ρ H h i l gg hi => ?_, fun L' ρ H h i l gg hi x H' y => ?_, fun L' ρ H h l gg => ?_, hg⟩
  · obtain ⟨ys, hq, rr⟩ := f _ _ _ _ l gg
    cases b
    · exact ⟨ys, ys[i]'(by rw [← rr.length]; exact hi), hq, List.getElem?_eq_getElem _⟩
    · exact ⟨ys, ys[i]'(by rw [← rr.length]; exact hi), hq, List.getElem?_eq_getElem _⟩
  · obtain ⟨ys, hq, rr⟩ := f _ _ _ _ l gg
    obtain ⟨v, h1, h2⟩ := rr.get (List.getElem?_eq_getElem hi)
    cases b
    · obtain ⟨rfl, hy⟩ := y
      have := hy ys hq
      rw [h1] at this; cases this
      exact ⟨l.sto.stp, l.sto, _, List.getElem?_eq_getElem hi, h2⟩
    · obtain ⟨rfl, hy⟩ := y
      have := hy ys hq
      rw [h1] at this; cases this
      exact ⟨l.sto.stp, l.sto, _, List.getElem?_eq_getElem hi, h2⟩
  · obtain ⟨ys, hq, rr⟩ := f _ _ _ _ l gg
    cases b
    · exact ⟨ys, hq, by rw [rr.length]; exact Nat.le_refl _⟩
    · exact ⟨ys, hq, by rw [rr.length]; exact Nat.le_refl _⟩
theorem iter_rng {lo : Int} {n : Nat} : IterOk N L ρ1 H1 (Itr lo n) ((List.range n).map fun (k : Nat) => .int (lo + k)) (ret ()) := by
  refine ⟨fun L' ρ H h i l gg hi => by show i < n; simpa using hi, fun L' ρ H h i l gg hi x H' y => ?_, fun L' ρ H h l gg => by show n ≤ _; simp, fun _ => .inl rfl⟩
  obtain ⟨rfl, rfl⟩ := y
  have hi' : i < n := by simpa using hi
  exact ⟨l.sto.stp, l.sto, .int (lo + (i : Nat)), by rw [List.getElem?_map, List.getElem?_range hi'] <;> rfl, rfl⟩
/-- a new pair -/
theorem pair_new {L' : Al} {ρ : Ro} {H : Hp} {h : Sto} {t u : T} {x y : V} {p : Addr} (S : StoOk N L' ρ H h) (n : H p = none) (r1 : Rep N L' ρ H t x) (r2 : Rep N L' ρ H u y) :
    Stp ρ H ρ (upd H p (.tup [x, y])) ∧ StoOk N L' ρ (upd H p (.tup [x, y])) h ∧ Rep N L' ρ (upd H p (.tup [x, y])) (.tup [t, u]) (.ref p) :=
  ⟨stp_upd S n, S.upd n, p, _, rfl, .inl (.inl upd_same), _, _, rfl, r1.stp (stp_upd S n), _, _, rfl, r2.stp (stp_upd S n), rfl⟩
theorem iter_enm {b : Bool} {k0 : Int} {xs : List T} {g : M Unit} {p : Addr} (hg : ∀ h, g h = .ok () h ∨ g h = .no)
    (f : ∀ L' ρ H h, Lat N L ρ1 H1 L' ρ H h → g h = .ok () h → ∃ ys, SqB b N.K H p ys ∧ Reps N L' ρ H xs ys) : IterOk N L ρ1 H1 (Ieb b k0 N.K p) (xs.zipIdx.map fun q => .tup [.int (k0 + (q.2 : Nat)), q.1]) g := by
  refine ⟨fun L' ρ H h i l gg hi => ?_, fun L' ρ H h i l gg hi x H' y => ?_, fun L' ρ H h l gg => ?_, hg⟩
  · obtain ⟨ys, hq, rr⟩ := f _ _ _ _ l gg
    have hi' : i < xs.length := by simpa using hi
    exact ⟨ys, ys[i]'(by rw [← rr.length]; exact hi'), hq, List.getElem?_eq_getElem _⟩
  · obtain ⟨ys, hq, rr⟩ := f _ _ _ _ l gg
    have hi' : i < xs.length := by simpa using hi
    obtain ⟨p', x', rfl, hn, rfl, hy⟩ := y
    obtain ⟨v, h1, h2⟩ := rr.get (List.getElem?_eq_getElem hi')
    have := hy ys hq
    rw [h1] at this; cases this
    obtain ⟨z1, z2, z3⟩ := pair_new l.sto hn (show Rep N L' ρ H (.int (k0 + (i : Nat))) (.int (k0 + (i : Nat))) from rfl) h2
    exact ⟨z1, z2, _, by simp [hi'], z3⟩
  · obtain ⟨ys, hq, rr⟩ := f _ _ _ _ l gg
    exact ⟨ys, hq, by rw [rr.length.symm]; simp⟩
theorem iter_zip {b c : Bool} {xs zs : List T} {g : M Unit} {p q : Addr} (hg : ∀ h, g h = .ok () h ∨ g h = .no)
    (f : ∀ L' ρ H h, Lat N L ρ1 H1 L' ρ H h → g h = .ok () h → (∃ ys, SqB b N.K H p ys ∧ Reps N L' ρ H xs ys) ∧ ∃ ys, SqB c N.K H q ys ∧ Reps N L' ρ H zs ys) : IterOk N L ρ1 H1 (Izb b c N.K p q) ((xs.zip zs).map fun q => .tup [q.1, q.2]) g := by
  refine ⟨fun L' ρ H h i l gg hi => ?_, fun L' ρ H h i l gg hi x H' y => ?_, fun L' ρ H h l gg => ?_, hg⟩
  · obtain ⟨⟨ys, hq, rr⟩, ws, hw, rw_⟩ := f _ _ _ _ l gg
    have hi' : i < xs.length ∧ i < zs.length := by simpa [Nat.lt_min] using hi
    exact ⟨ys, ws, ys[i]'(by rw [← rr.length]; exact hi'.1), ws[i]'(by rw [← rw_.length]; exact hi'.2), hq, hw, List.getElem?_eq_getElem _, List.getElem?_eq_getElem _⟩
  · obtain ⟨⟨ys, hq, rr⟩, ws, hw, rw_⟩ := f _ _ _ _ l gg
    have hi' : i < xs.length ∧ i < zs.length := by simpa [Nat.lt_min] using hi
    obtain ⟨p', x', y', rfl, hn, rfl, hx, hy⟩ := y
    obtain ⟨v, h1, h2⟩ := rr.get (List.getElem?_eq_getElem hi'.1)
    obtain ⟨w, h3, h4⟩ := rw_.get (List.getElem?_eq_getElem hi'.2)
    have e1 := hx ys hq
    have e2 := hy ws hw
    rw [h1] at e1; cases e1
    rw [h3] at e2; cases e2
    obtain ⟨z1, z2, z3⟩ := pair_new l.sto hn h2 h4
    have hz : (xs.zip zs)[i]? = some (xs[i]'hi'.1, zs[i]'hi'.2) := List.getElem?_zip_eq_some.mpr ⟨List.getElem?_eq_getElem hi'.1, List.getElem?_eq_getElem hi'.2⟩
    exact ⟨z1, z2, _, by rw [List.getElem?_map, hz] <;> rfl, z3⟩
  · obtain ⟨⟨ys, hq, rr⟩, ws, hw, rw_⟩ := f _ _ _ _ l gg
    refine ⟨ys, ws, hq, hw, ?_⟩
    rw [← rr.length, ← rw_.length, List.length_map, List.length_zip]
end

/-! ### as readings -/
abbrev RI (N : Nm) : Rl (List T × M Unit) It := fun L ρ H r J => IterOk N L ρ H J r.1 r.2
def tOfI (N : Nm) (W : WX) (E : Env → M (List T × M Unit)) : TI := fun σ H R => ∃ L ρ h σT, StoOk N L ρ H h ∧ ERel N L ρ H σT σ ∧ Out N (RI N) (WE W σ) L ρ H (E σT h) R
end Mt
namespace L2
open PySem PySem.Spec PyProof.Rows
section
variable {X : Cx} {tg e : Expr}
theorem PI.imp {t t' : TI} (p : PI X tg e t) (f : ∀ σ H Q, t' σ H Q → t σ H Q) : PI X tg e t' := ⟨fun pins s σ H Q I q => p.run pins s σ H Q I (f σ H Q q)⟩
def iSeq (K : PySem.W.Frag) (tl : TE) : TI := fun σ H R => tl σ H fun x H1 => ∃ a b, x = .ref a ∧ (∃ xs, SqB b K H1 a xs) ∧ R (Mt.Isb b K a) H1
theorem pi_seq {l : Expr} {tl : TE} (hl : PE X l tl) : PI X tg l (iSeq X.K tl) := by
  refine ⟨fun pins s σ H R I h => ?_⟩
  refine thn (hl.run pins s σ H _ I h) fun v s1 ⟨x, H1, I1, r1, q1⟩ => ?_
  obtain ⟨a, b, e, ⟨xs, hq⟩, q⟩ := q1
  subst e
  cases r1
  have nw : ∀ b ∈ [s1.heap.objs.size], FpOk X pins H1 b := fun b hb => by
    cases List.mem_singleton.mp hb
    exact I1.fpOk (Nat.le_refl _) (I1.hok.fresh (Nat.le_refl _))
  cases b
  · obtain ⟨its, rv, p, hz⟩ := I1.list hq
    exact wpAny_pyIter_list p.isList ⟨s1.heap.objs.size, _, _, _, H1, rfl, I1.kept (t' := s1.toks) fun b o e => Heap.get?_push_of_some _ e, turn_list a _, ⟨_, Heap.get?_push_size _ rfl, rfl, rfl⟩, nw, q⟩
  · obtain ⟨its, rv, p, hz⟩ := I1.tuple hq
    exact wpAny_pyIter_tuple (show s1.heap.IsTuple a its.toArray from p) ⟨s1.heap.objs.size, _, _, _, H1, rfl, I1.kept (t' := s1.toks) fun b o e => Heap.get?_push_of_some _ e, turn_tuple a _, ⟨_, Heap.get?_push_size _ rfl, rfl, rfl⟩, nw, q⟩
end
end L2
namespace Mt
open PySem PySem.Spec PyProof.Rows L2
section
variable {N : Nm} {X : Cx} (hK : X.K = N.K) {W : WX} {tg a b : Expr} {Ea Eb : Env → M T} {pos p : Pos}
omit hK in
theorem items_ok {h : Sto} {t : T} {xs : List T} (e : itemsT t h = .ok xs h) : stillT xs t h = .ok () h := by
  cases t with
  | ref n =>
    have e : bnd (getO n) (fun u => match u with
      | O.lst xs => ret xs
      | _ => no) h = R.ok xs h := e
    show bnd (getO n) _ h = _
    unfold bnd getO at e ⊢
    cases w : h[n]? with
    | none => rw [w] at e; cases e
    | some u =>
      rw [w] at e
      cases u with
      | lst zs =>
        cases (show R.ok zs h = R.ok xs h from e)
        show (if T.beqs xs xs then ret () else no : M Unit) h = _
        rw [if_pos (T.beqs_refl _)]
        rfl
      | _ => cases e
  | _ => rfl
omit hK in
theorem Lat.here {L : Al} {ρ : Ro} {H : Hp} {h : Sto} (S : StoOk N L ρ H h) : Lat N L ρ H L ρ H h := ⟨.refl, S⟩
include hK
theorem pi_tseq (ha : PE X a (tOf N W Ea)) : PI X tg a (tOfI N W fun σ => bnd (Ea σ) fun x => bnd (itemsT x) fun xs => ret (xs, stillT xs x)) :=
  (pi_seq ha).imp fun σ H Q ⟨L, ρ, h, σT, S, E, o⟩ => ofBnd S E o fun x H1 ρ1 t h1 s1 S1 E1 r1 o1 => by
    obtain ⟨p, xs, ys, rfl, hq, rr, ei, o2⟩ := Out.items S1 r1 o1
    rw [hK]
    obtain ⟨b, f⟩ := seq_later S1 r1 ei
    refine ⟨p, b, rfl, ?_, o2.ret S1 (iter_seq (still_gd xs t) f)⟩
    obtain ⟨ys', h1, _⟩ := f L ρ1 H1 h1 (.here S1) (items_ok ei)
    exact ⟨ys', h1⟩
omit hK in
/-- both guards -/
theorem both_gd {g g' : M Unit} (h1 : ∀ h, g h = .ok () h ∨ g h = .no) (h2 : ∀ h, g' h = .ok () h ∨ g' h = .no) (h : Sto) : bnd g (fun _ => g') h = .ok () h ∨ bnd g (fun _ => g') h = .no := by
  unfold bnd
  rcases h1 h with e | e <;> rw [e]
  · exact h2 h
  · exact .inr rfl
omit hK in
theorem both_ok {g g' : M Unit} (h1 : ∀ h, g h = .ok () h ∨ g h = .no) {h : Sto} (e : bnd g (fun _ => g') h = .ok () h) : g h = .ok () h ∧ g' h = .ok () h := by
  unfold bnd at e
  rcases h1 h with q | q <;> rw [q] at e
  · exact ⟨q, e⟩
  · cases e
theorem pi_tenum {elts : List Expr} {kk : Nat} {tpos : Pos} (hg : Gl X "enumerate") (hm : X.mg "enumerate" = none) (ha : PE X a (tOf N W Ea)) (hs : starEach [a] X.env = (false, eval a X.env) :: starEach [] X.env) :
    PI X (.Tuple elts kk tpos) (.Call (.Name "enumerate" p) [a] [] pos) (tOfI N W fun σ => bnd (Ea σ) fun x => bnd (itemsT x) fun xs => ret (xs.zipIdx.map fun p => .tup [.int (0 + (p.2 : Nat)), p.1], stillT xs x)) :=
  (pi_enumB hg hm (pa_cons ha pa_nil hs) hs).imp fun σ H Q ⟨L, ρ, h, σT, S, E, o⟩ => ofBnd S E o fun x H1 ρ1 t h1 s1 S1 E1 r1 o1 => by
    obtain ⟨p, xs, ys, rfl, hq, rr, ei, o2⟩ := Out.items S1 r1 o1
    rw [hK]
    obtain ⟨b, f⟩ := seq_later S1 r1 ei
    obtain ⟨ys', hq', _⟩ := f L ρ1 H1 h1 (.here S1) (items_ok ei)
    exact ⟨p, b, ys', rfl, hq', o2.ret S1 (iter_enm (still_gd xs t) f)⟩
theorem pi_tzip {elts : List Expr} {kk : Nat} {tpos : Pos} (hg : Gl X "zip") (hm : X.mg "zip" = none) (ha : PE X a (tOf N W Ea)) (hb : PE X b (tOf N W Eb))
    (hs : starEach [a, b] X.env = (false, eval a X.env) :: starEach [b] X.env) (hs2 : starEach [b] X.env = (false, eval b X.env) :: starEach [] X.env) :
    PI X (.Tuple elts kk tpos) (.Call (.Name "zip" p) [a, b] [] pos) (tOfI N W fun σ => bnd (Ea σ) fun x => bnd (Eb σ) fun y => bnd (itemsT x) fun xs => bnd (itemsT y) fun ys =>
      ret ((xs.zip ys).map fun p => .tup [p.1, p.2], bnd (stillT xs x) fun _ => stillT ys y)) :=
  (pi_zipB hg hm (pa_cons ha (pa_cons hb pa_nil hs2) hs) hs (by rw [hs2] <;> rfl)).imp fun σ H Q ⟨L, ρ, h, σT, S, E, o⟩ => ofBnd S E o fun x H1 ρ1 t h1 s1 S1 E1 r1 o1 => ofBnd S1 E1 o1 fun y H2 ρ2 u h2 s2 S2 E2 r2 o2 => by
    have r1' := r1.stp s2
    obtain ⟨p, xs, vs, rfl, hq, rr, ei, o3⟩ := Out.items S2 r1' o2
    obtain ⟨q, ys, ws, rfl, hq2, rr2, ei2, o4⟩ := Out.items S2 r2 o3
    rw [hK]
    obtain ⟨b, f⟩ := seq_later S2 r1' ei
    obtain ⟨c, f2⟩ := seq_later S2 r2 ei2
    obtain ⟨vs', hq', _⟩ := f L ρ2 H2 h2 (.here S2) (items_ok ei)
    obtain ⟨ws', hq2', _⟩ := f2 L ρ2 H2 h2 (.here S2) (items_ok ei2)
    refine ⟨p, q, b, c, vs', ws', rfl, hq', hq2', o4.ret S2 (iter_zip (both_gd (still_gd xs t) (still_gd ys u)) fun L' ρ H h l g => ?_)⟩
    obtain ⟨g1, g2⟩ := both_ok (still_gd xs t) g
    exact ⟨f L' ρ H h l g1, f2 L' ρ H h l g2⟩
omit hK in
theorem rng_val {L : Al} {ρ : Ro} {H : Hp} {h : Sto} {t u : T} {x y : V} {Wx : XK} {Q : It → Hp → Prop} (S : StoOk N L ρ H h) (r1 : Rep N L ρ H t x) (r2 : Rep N L ρ H u y)
    (o : Out N (RI N) Wx L ρ H ((match t, u with
      | .int i, .int j => if -(2 ^ 62) ≤ i ∧ i < 2 ^ 62 ∧ -(2 ^ 62) ≤ j ∧ j < 2 ^ 62 then ret ((List.range (j - i).toNat).map fun (k : Nat) => T.int (i + k), ret ()) else no
      | _, _ => no) h) Q) : ∃ i j : Int, x = .int i ∧ y = .int j ∧ (-(2 ^ 62) ≤ i ∧ i < 2 ^ 62 ∧ -(2 ^ 62) ≤ j ∧ j < 2 ^ 62) ∧ Q (Itr i (j - i).toNat) H := by
  cases t with
  | int i => cases u with
    | int j =>
      obtain ⟨c, o⟩ := o.iteN
      exact ⟨i, j, r1, r2, c, o.ret S iter_rng⟩
    | _ => exact o.no.elim
  | _ => exact o.no.elim
omit hK in
theorem pi_trng2 (hg : Gl X "range") (hm : X.mg "range" = none) (ha : PE X a (tOf N W Ea)) (hb : PE X b (tOf N W Eb))
    (hs : starEach [a, b] X.env = (false, eval a X.env) :: starEach [b] X.env) (hs2 : starEach [b] X.env = (false, eval b X.env) :: starEach [] X.env) :
    PI X tg (.Call (.Name "range" p) [a, b] [] pos) (tOfI N W fun σ => bnd (Ea σ) fun x => bnd (Eb σ) fun y => match x, y with
      | .int i, .int j => if -(2 ^ 62) ≤ i ∧ i < 2 ^ 62 ∧ -(2 ^ 62) ≤ j ∧ j < 2 ^ 62 then ret ((List.range (j - i).toNat).map fun (k : Nat) => .int (i + k), ret ()) else no
      | _, _ => no) :=
  (pi_range2 hg hm (pa_cons ha (pa_cons hb pa_nil hs2) hs) (by rw [hs, hs2] <;> rfl) hs2).imp fun σ H Q ⟨L, ρ, h, σT, S, E, o⟩ => ofBnd S E o fun x H1 ρ1 t h1 s1 S1 E1 r1 o1 => ofBnd S1 E1 o1 fun y H2 ρ2 u h2 s2 S2 E2 r2 o2 => by
    obtain ⟨i, j, rfl, rfl, c, q⟩ := rng_val S2 (r1.stp s2) r2 o2
    exact ⟨i, j, rfl, c, q⟩
omit hK in
theorem pi_trng1 (hg : Gl X "range") (hm : X.mg "range" = none) (ha : PE X a (tOf N W Ea)) (hs : starEach [a] X.env = (false, eval a X.env) :: starEach [] X.env) :
    PI X tg (.Call (.Name "range" p) [a] [] pos) (tOfI N W fun σ => bnd (ret (T.int 0)) fun x => bnd (Ea σ) fun y => match x, y with
      | .int i, .int j => if -(2 ^ 62) ≤ i ∧ i < 2 ^ 62 ∧ -(2 ^ 62) ≤ j ∧ j < 2 ^ 62 then ret ((List.range (j - i).toNat).map fun (k : Nat) => .int (i + k), ret ()) else no
      | _, _ => no) :=
  (pi_range1 hg hm (pa_cons ha pa_nil hs) hs).imp fun σ H Q ⟨L, ρ, h, σT, S, E, o⟩ => by
    have o : Out N (RI N) (WE W σ) L ρ H (bnd (Ea σT) (fun y => match T.int 0, y with
      | .int i, .int j => if -(2 ^ 62) ≤ i ∧ i < 2 ^ 62 ∧ -(2 ^ 62) ≤ j ∧ j < 2 ^ 62 then ret ((List.range (j - i).toNat).map fun (k : Nat) => T.int (i + k), ret ()) else no
      | _, _ => no) h) Q := o
    exact ofBnd S E o fun y H2 ρ2 u h2 s2 S2 E2 r2 o2 => by
      obtain ⟨i, j, e1, rfl, c, q⟩ := rng_val S2 (show Rep N L ρ2 H2 (.int 0) (.int 0) from rfl) r2 o2
      cases e1
      rw [Int.sub_zero] at q
      exact ⟨j, rfl, c.2.2.1, c.2.2.2, q⟩
end
end Mt

set_option maxHeartbeats 8000000
/-! Mt9: targets. -/
namespace Mt
open PySem PySem.Spec PyProof.Rows L2

/-- the names outside ns are as they were -/
structure Agr (ns : Nat → Bool) (σ σ' : L2.St) : Prop where
  len : σ'.length = σ.length
  eq : ∀ i, ns i = false → σ'[i]? = σ[i]?
theorem Agr.refl {ns : Nat → Bool} {σ : L2.St} : Agr ns σ σ := ⟨rfl, fun _ _ => rfl⟩
theorem Agr.trans {ns : Nat → Bool} {σ σ1 σ2 : L2.St} (a : Agr ns σ σ1) (b : Agr ns σ1 σ2) : Agr ns σ σ2 := ⟨b.len.trans a.len, fun i h => (b.eq i h).trans (a.eq i h)⟩
theorem Agr.set {ns : Nat → Bool} {σ : L2.St} {i : Nat} {v : Option V} (h : ns i = true) : Agr ns σ (σ.set i v) := ⟨List.length_set, fun j hj => by
  have : i ≠ j := fun e => by rw [e, hj] at h; cases h
  rw [List.getElem?_set_ne this]⟩
/-- the wish at a state, for whatever the names ns become -/
def WS (ns : Nat → Bool) (W : WX) (σ : L2.St) : XK := fun c d H => ∀ σ', Agr ns σ σ' → W c d σ' H
theorem WS.we {ns : Nat → Bool} {W : WX} {σ : L2.St} : ∀ c d H, WS ns W σ c d H → WE W σ c d H := fun _ _ _ h => h σ .refl
theorem WS.agr {ns : Nat → Bool} {W : WX} {σ σ1 : L2.St} (a : Agr ns σ σ1) : ∀ c d H, WS ns W σ c d H → WS ns W σ1 c d H := fun _ _ _ h σ' a' => h σ' (a.trans a')
abbrev RE (N : Nm) (σ : L2.St) (ns : Nat → Bool) : Rl Env L2.St := fun L ρ H σT σ' => ERel N L ρ H σT σ' ∧ Agr ns σ σ'
section
variable {N : Nm} {L : Al} {ρ : Ro} {H : Hp} {h : Sto} {α β : Type} {rl rl' : Rl α β} {W : XK}
theorem Out.rel {r : R α} {Q : β → Hp → Prop} (o : Out N rl W L ρ H r Q) (f : ∀ L ρ H a b, rl' L ρ H a b → rl L ρ H a b) : Out N rl' W L ρ H r Q := by
  rcases o with ⟨a, h', e, k⟩ | z
  · exact .inl ⟨a, h', e, fun b H' ρ' s S r => k b H' ρ' s S (f _ _ _ _ _ r)⟩
  · exact .inr z
end
def gOf (N : Nm) (W : WX) (ns : Nat → Bool) (A : T → Env → M Env) : TG := fun v σ H Q => ∃ L ρ h σT t, StoOk N L ρ H h ∧ ERel N L ρ H σT σ ∧ Rep N L ρ H t v ∧ Out N (RE N σ ns) (WS ns W σ) L ρ H (A t σT h) Q
def gsOf (N : Nm) (W : WX) (ns : Nat → Bool) (A : List T → Env → M Env) : TGs := fun vs σ H Q => ∃ L ρ h σT ts, StoOk N L ρ H h ∧ ERel N L ρ H σT σ ∧ Reps N L ρ H ts vs ∧ Out N (RE N σ ns) (WS ns W σ) L ρ H (A ts σT h) Q
end Mt
namespace L2
open PySem PySem.Spec PyProof.Rows
section
variable {X : Cx} {e : Expr}
theorem PG.imp {t t' : TG} (p : PG X e t) (f : ∀ v σ H Q, t' v σ H Q → t v σ H Q) : PG X e t' := ⟨fun pins s σ H v u Q I r q => p.run pins s σ H v u Q I r (f v σ H Q q)⟩
theorem PGs.imp {es : List Expr} {t t' : TGs} (p : PGs X es t) (f : ∀ v σ H Q, t' v σ H Q → t v σ H Q) : PGs X es t' := ⟨fun pins s σ H v u Q I r q => p.run pins s σ H v u Q I r (f v σ H Q q)⟩
/-- o.f = .. -/
def gFld (K : PySem.W.Frag) (to : TE) (f : Str) : TG := fun v σ H Q => to σ H fun x H1 => ∃ a C dx fs, x = .ref a ∧ H1 a = some (.ins C dx fs) ∧ Cls K C ∧ NoAttr K C f ∧ fs.length < 1000 ∧ Q σ (upd H1 a (.ins C dx (putF f v fs)))
theorem pg_fld {o : Expr} {to : TE} {f : Str} {pos : Pos} (ho : PE X o to) : PG X (.Attribute o f pos) (gFld X.K to f) := by
  refine ⟨fun pins s σ H v u Q I r h => ?_⟩
  show wpAny _ _ (do
    let ov ← holding [u] (eval o X.env)
    standAt pos.atName
    holding [u, ov] (setAttr ov f u)
    release [u, ov] []) _ _ s
  refine wpAny_bind (wpAny_holding (thn (ho.run pins s σ H _ I h) fun ov s1 ⟨x, H1, I1, rx, a, C, dx, fs, ex, ea, c, n, l, q⟩ => ?_))
  subst ex
  obtain rfl : ov = Value.ref a := rx
  exact wpAny_bind (wpAny_standAt (wpAny_bind (wpAny_holding (setattr_ok I1 ea c n l r fun s3 I3 => wpAny_release ⟨σ, _, I3, q⟩))))
end
end L2
namespace Mt
open PySem PySem.Spec PyProof.Rows L2
section
variable {N : Nm} {X : Cx} (hK : X.K = N.K) {W : WX} {ns : Nat → Bool} {a b e : Expr} {es : List Expr} {Ea Eb : Env → M T} {pos : Pos}
theorem pg_tname {i : Nat} {x : Str} (hN : X.N.Nodup) (hi : X.N[i]? = some x) (hx : Loc X.env.scope x) (hf : X.fn x = true ∨ X.env.scope.names.lookup x = some .local) (hn : ns i = true) : PG X (.Name x pos) (gOf N W ns fun v σ => if i < σ.length then ret (σ.set i (some v)) else no) :=
  (pg_name hN hi hx hf).imp fun v σ H Q ⟨L, ρ, h, σT, t, S, E, r, o⟩ => by
    obtain ⟨c, o⟩ := o.iteN
    exact o.ret S ⟨E.set r i, .set hn⟩
theorem pgs_tnil : PGs X [] (gsOf N W ns fun vs σ => match vs with
    | [] => ret σ
    | _ => no) := pgs_nil.imp fun vs σ H Q ⟨L, ρ, h, σT, ts, S, E, r, o⟩ => by
  cases ts with
  | nil => cases (show vs = [] from r); exact ⟨rfl, o.ret S ⟨E, .refl⟩⟩
  | cons _ _ => exact o.no.elim
theorem pgs_tcons {A : T → Env → M Env} {As : List T → Env → M Env} (h1 : PG X e (gOf N W ns A)) (h2 : PGs X es (gsOf N W ns As)) (hs : (assignEach (e :: es) X.env).map (·.2) = assign e X.env :: (assignEach es X.env).map (·.2)) :
    PGs X (e :: es) (gsOf N W ns fun vs σ => match vs with
      | x :: xs => bnd (A x σ) fun σ' => As xs σ'
      | [] => no) := (pgs_cons h1 h2 hs).imp fun vs σ H Q ⟨L, ρ, h, σT, ts, S, E, r, o⟩ => by
  cases ts with
  | nil => exact o.no.elim
  | cons t ts =>
    obtain ⟨y, zs, rfl, ry, rz⟩ := r
    refine ⟨y, zs, rfl, L, ρ, h, σT, t, S, E, ry, (o.bnd (rl := RE N σ ns)).imp fun σ1 H1 ⟨ρ1, σT1, h1, _, s1, S1, ⟨E1, a1⟩, o1⟩ => ?_⟩
    exact ⟨L, ρ1, h1, σT1, ts, S1, E1, rz.stp s1, (o1.rel fun _ _ _ _ _ ⟨e1, a2⟩ => ⟨e1, a1.trans a2⟩).wish (WS.agr a1)⟩
theorem pg_either {e : Expr} {t u : TG} (h1 : PG X e t) (h2 : PG X e u) : PG X e (fun v σ H Q => t v σ H Q ∨ u v σ H Q) := ⟨fun pins s σ H v w Q I r h => h.elim (h1.run pins s σ H v w Q I r) (h2.run pins s σ H v w Q I r)⟩
include hK in
theorem pg_ttup {k n : Nat} {As : List T → Env → M Env} (hc : X.calm = true) (h : PGs X es (gsOf N W ns As)) (hn : (assignEach es X.env).length = n) (hst : (assignEach es X.env).findIdx? (·.1) = none) :
    PG X (.Tuple es k pos) (gOf N W ns fun v σ => match v with
      | .tup xs => if n = xs.length then As xs σ else no
      | v => bnd (listT v) fun xs => if n = xs.length then As xs σ else no) := (pg_either (pg_tup hc h hn hst) (pg_unl hc h hn hst)).imp fun v σ H Q ⟨L, ρ, h, σT, t, S, E, r, o⟩ => by
  have other : Out N (RE N σ ns) (WS ns W σ) L ρ H (bnd (listT t) (fun xs => if n = xs.length then As xs σT else no) h) Q → gUnl X.K n (gsOf N W ns As) v σ H Q := fun o => by
    obtain ⟨p, xs, ys, rfl, q, rr, o⟩ := Out.lists S r o
    obtain ⟨c, o⟩ := o.iteN
    exact ⟨p, ys, rfl, by rw [hK]; exact q, by rw [c, rr.length], L, ρ, h, σT, xs, S, E, rr, o⟩
  cases t with
  | tup xs =>
    obtain ⟨c, o⟩ := o.iteN
    obtain ⟨p, ys, rfl, q, rr⟩ := r
    exact .inl ⟨p, ys, rfl, by rw [hK]; exact q, by rw [c, rr.length], L, ρ, h, σT, xs, S, E, rr, o⟩
  | _ => exact .inr (other o)
include hK in
theorem pg_tsub (ha : PE X a (tOf N W Ea)) (hb : PE X b (tOf N W Eb)) (hp : ∀ v, assign (.Subscript a b pos) X.env v = (do
      let ov ← holding [v] (eval a X.env)
      let iv ← holding [v, ov] (eval b X.env)
      standAt pos
      holding [v, ov, iv] (setItem ov iv v)
      release [v, ov, iv] [])) : PG X (.Subscript a b pos) (gOf N W ns fun v σ => bnd (Ea σ) fun x => bnd (Eb σ) fun y => match x, y with
    | .ref n, .int k => bnd (getO n) fun
      | .lst xs => bnd (ofO (L2.ixN xs.length k)) fun j => bnd (setO n (.lst (xs.set j v))) fun _ => ret σ
      | _ => no
    | _, _ => no) := (pg_sub ha hb set_list hp).imp fun v σ H Q ⟨L, ρ, h, σT, t, S, E, r, o⟩ => ofBnd S E (o.wish WS.we) fun x H1 ρ1 a1 h1 s1 S1 E1 r1 o1 => ofBnd S1 E1 o1 fun y H2 ρ2 b1 h2 s2 S2 E2 r2 o2 => by
  have r1' := r1.stp s2
  have rv := (r.stp s1).stp s2
  cases a1 with
  | ref n => cases b1 with
    | int k =>
      obtain ⟨u, w, o2⟩ := o2.getO
      cases u with
      | lst xs =>
        obtain ⟨j, ej, o2⟩ := o2.bndO
        obtain ⟨p, rfl, q⟩ := r1'
        obtain ⟨ys, hl, rr⟩ := S2.lst w q
        obtain ⟨st, So⟩ := sto_lst hK S2 w q hl (rr.set rv j)
        unfold Mt.bnd at o2
        rw [setO_eq w] at o2
        exact ⟨p, ys, k, j, rfl, r2, hl, by rw [← rr.length]; exact ej, o2.okD _ _ _ st So ⟨E2.stp st, .refl⟩⟩
      | _ => exact o2.no.elim
    | _ => exact o2.no.elim
  | _ => exact o2.no.elim
/-- a field put -/
theorem putV_rep {L : Al} {ρ : Ro} {H : Hp} {f : Nat} {t : T} {v : V} (r0 : Rep N L ρ H t v) : ∀ {fs : List Nat} {vs : List T} {ys : List V}, fs.length = ys.length → Reps N L ρ H vs ys →
    ∃ zs, putF (N.fnm f) v ((fs.map N.fnm).zip ys) = ((putV f t fs vs).1.map N.fnm).zip zs ∧ Reps N L ρ H (putV f t fs vs).2 zs ∧ (putV f t fs vs).1.length = zs.length
  | [], vs, ys, e, r => by
    have : ys = [] := List.eq_nil_of_length_eq_zero e.symm
    subst this
    cases vs with
    | nil => exact ⟨[v], rfl, ⟨v, [], rfl, r0, rfl⟩, rfl⟩
    | cons _ _ => obtain ⟨_, _, e, _⟩ := r; cases e
  | g :: gs, [], ys, e, r => by cases (show ys = [] from r); cases e
  | g :: gs, w :: ws, ys, e, r => by
    obtain ⟨y, zs, rfl, ry, rz⟩ := r
    by_cases q : g = f
    · subst q
      refine ⟨v :: zs, ?_, ?_, ?_⟩
      · show (if N.fnm g = N.fnm g then _ else _) = _
        rw [if_pos rfl]
        unfold putV
        rw [if_pos rfl]
        rfl
      · unfold putV
        rw [if_pos rfl]
        exact ⟨v, zs, rfl, r0, rz⟩
      · unfold putV
        rw [if_pos rfl]
        exact e
    · obtain ⟨us, h1, h2, h3⟩ := putV_rep r0 (f := f) (fs := gs) (Nat.succ.inj e) rz
      refine ⟨y :: us, ?_, ?_, ?_⟩
      · show (if N.fnm g = N.fnm f then _ else _) = _
        rw [if_neg fun z => q (N.fnj _ _ z)]
        unfold putV
        rw [if_neg q]
        show (N.fnm g, y) :: putF (N.fnm f) v ((gs.map N.fnm).zip zs) = _
        rw [h1]
        rfl
      · unfold putV
        rw [if_neg q]
        exact ⟨y, us, rfl, ry, h2⟩
      · unfold putV
        rw [if_neg q]
        show _ + 1 = _ + 1
        rw [h3]
include hK in
theorem pg_tfld {f : Nat} (kf : N.kf f) (ha : PE X a (tOf N W Ea)) : PG X (.Attribute a (N.fnm f) pos) (gOf N W ns fun v σ => bnd (Ea σ) fun
    | .ref n => bnd (getO n) fun
      | .ins c fs vs => if fs.length < 900 then bnd (setO n (.ins c (putV f v fs vs).1 (putV f v fs vs).2)) fun _ => ret σ else no
      | _ => no
    | _ => no) := (pg_fld ha).imp fun v σ H Q ⟨L, ρ, h, σT, t, S, E, r, o⟩ => ofBnd S E (o.wish WS.we) fun x H1 ρ1 a1 h1 s1 S1 E1 r1 o1 => by
  have rv := r.stp s1
  cases a1 with
  | ref n =>
    obtain ⟨u, w, o1⟩ := o1.getO
    cases u with
    | ins c fs vs =>
      obtain ⟨c9, o1⟩ := o1.iteN
      obtain ⟨p, rfl, q⟩ := r1
      obtain ⟨p', e1, ys, ⟨dx, g1, g2, g3, g4⟩, rr⟩ := S1.obj n _ w
      rw [q] at e1; cases e1
      obtain ⟨zs, z1, z2, z3⟩ := putV_rep rv (f := f) g3 rr
      have hd : dx ≠ p := fun z => by rw [z, g1] at g2; cases g2
      obtain ⟨st, So⟩ := sto_set hK S1 w q (k := .ins (N.cadr c) dx (((putV f t fs vs).1.map N.fnm).zip zs)) (o := .ins c (putV f t fs vs).1 (putV f t fs vs).2) trivial
        (fun i C dx' fs' e z => by subst z; rw [g1] at e; cases e; exact ⟨_, _, rfl⟩) fun s => ⟨zs, ⟨dx, upd_same, by rw [upd_ne hd]; exact g2, z3, g4⟩, z2.stp s⟩
      unfold Mt.bnd at o1
      rw [setO_eq w] at o1
      refine ⟨p, N.cadr c, dx, (fs.map N.fnm).zip ys, rfl, g1, by rw [hK]; exact (N.insK c g4).1, by rw [hK]; exact N.fldK c f g4 kf, ?_, ?_⟩
      · rw [List.length_zip, List.length_map, ← g3]
        omega
      · rw [z1]
        exact o1.okD _ _ _ st So ⟨E1.stp st, .refl⟩
    | _ => exact o1.no.elim
  | _ => exact o1.no.elim
end
end Mt

set_option maxHeartbeats 8000000
/-! Mt10: list comprehensions. -/
namespace Mt
open PySem PySem.Spec PyProof.Rows L2

abbrev WF : WX := fun _ _ _ _ => False
/-- a run's end that is no exception -/
def Go (N : Nm) (L : Al) (ρ : Ro) (H : Hp) (r : R T) (Q : VK) : Prop := ∃ a h', r = .ok a h' ∧ ∀ b H' ρ', Stp ρ H ρ' H' → StoOk N L ρ' H' h' → Rep N L ρ' H' a b → Q b H'
section
variable {N : Nm} {W : XK} {L L' : Al} {ρ ρ1 : Ro} {H H1 : Hp} {h : Sto} {α β : Type} {rl : Rl α β} {Q : VK}
theorem Out.nox {m : M T} (o : Out N (RT N) W L ρ H (nox m h) Q) : Go N L ρ H (m h) Q := by
  unfold Mt.nox at o
  cases e : m h with
  | ok a h' => rw [e] at o; exact ⟨a, h', rfl, o.okD⟩
  | ex x h' => rw [e] at o; exact o.no.elim
  | no => rw [e] at o; exact o.no.elim
theorem Go.bnd {m : M α} {f : α → M T} (o : Go N L ρ H (Mt.bnd m f h) Q) : ∃ a h1, m h = .ok a h1 ∧ Go N L ρ H (f a h1) Q := by
  unfold Mt.bnd at o
  cases e : m h with
  | ok a h1 => rw [e] at o; exact ⟨a, h1, rfl, o⟩
  | ex x h' => rw [e] at o; obtain ⟨_, _, z, _⟩ := o; cases z
  | no => rw [e] at o; obtain ⟨_, _, z, _⟩ := o; cases z
theorem Go.no (o : Go N L ρ H .no Q) : False := by obtain ⟨_, _, z, _⟩ := o; cases z
theorem Go.iteN {c : Prop} [Decidable c] {m : M T} (o : Go N L ρ H ((if c then m else Mt.no) h) Q) : c ∧ Go N L ρ H (m h) Q := by
  by_cases q : c
  · rw [if_pos q] at o; exact ⟨q, o⟩
  · rw [if_neg q] at o; exact o.no.elim
/-- a part of it, over the state that has come -/
theorem Out.part {m : M α} {a : α} {h1 : Sto} {Wx : XK} {Q' : β → Hp → Prop} (e : m h = .ok a h1) (k : ∀ b H' ρ', Stp ρ H ρ' H' → StoOk N L' ρ' H' h1 → rl L' ρ' H' a b → Q' b H') : Out N rl Wx L' ρ H (m h) Q' := .inl ⟨a, h1, e, k⟩
end
/-- the new list is given out -/
theorem give_lst {N : Nm} {L : Al} {ρ1 ρ : Ro} {H1 H : Hp} {h : Sto} {D : Addr} {m : Bool} {xs : List T} {ys : List V} {Q : VK} (hn : H1 D = none) (nl : ¬ L D) (st : Stp ρ1 H1 ρ H) (S : StoOk N (wD L D) ρ H h) (e : H D = some (.lst ys)) (r : Reps N (wD L D) ρ H xs ys)
    (o : Go N L ρ1 H1 (mkL m xs h) Q) : Q (.ref D) H := by
  obtain ⟨a, h', e1, k⟩ := o
  cases m with
  | false =>
    cases (show R.ok (T.lst xs) h = R.ok a h' from e1)
    exact k _ _ _ st S.un ⟨D, ys, rfl, ⟨nl, (S.out D (.inr rfl)).2⟩, e, r.mv mv_un⟩
  | true =>
    cases (show R.ok (T.ref h.length) (h ++ [O.lst xs]) = R.ok a h' from e1)
    refine k _ _ _ ⟨st.liv, st.keep, fun i a e => ?_, fun i a e => ?_⟩ (S.sto nl e r) ⟨D, rfl, rIns_new⟩
    · unfold rIns at e
      split at e
      · cases e; exact .inr hn
      · exact st.old i a e
    · have := st.ref i a e
      rw [rIns_old (by have := S.dom i a this; omega)]
      exact this
/-! ### wiped names -/
theorem wipe_get {σ : L2.St} {i : Nat} : ∀ {vs : List Nat}, i ∈ vs → i < σ.length → (L2.wipe σ vs)[i]? = some none
  | v :: vs, hm, hl => by
    show ((L2.wipe σ vs).set v none)[i]? = _
    by_cases e : v = i
    · subst e
      rw [List.getElem?_set_self (by rw [wipe_length]; exact hl)]
    · rw [List.getElem?_set_ne e]
      rcases List.mem_cons.mp hm with q | q
      · exact (e q.symm).elim
      · exact wipe_get q hl
/-- names outside vs as they were: the same, wiped -/
theorem wipe_agr {σ σ' : L2.St} {ns : Nat → Bool} {vs : List Nat} (hv : ∀ i, ns i = true → i ∈ vs) (a : Agr ns (L2.wipe σ vs) σ') : L2.wipe σ' vs = L2.wipe σ vs := by
  apply List.ext_getElem?
  intro i
  have hl : σ'.length = σ.length := by rw [a.len, wipe_length]
  by_cases hi : i < σ.length
  · by_cases hm : i ∈ vs
    · rw [wipe_get hm (by rw [hl]; exact hi), wipe_get hm hi]
    · rw [wipe_out hm, a.eq i, wipe_out hm]
      cases q : ns i with
      | true => exact (hm (hv i q)).elim
      | false => rfl
  · rw [List.getElem?_eq_none, List.getElem?_eq_none]
    · rw [wipe_length]; omega
    · rw [wipe_length, hl]; omega
section
variable {N : Nm} {X : Cx} (hK : X.K = N.K) {W : WX}
/-- the state within a comprehension -/
structure Lc (N : Nm) (L : Al) (ρ1 : Ro) (H1 : Hp) (D : Addr) (ρ : Ro) (H : Hp) (h : Sto) (acc : List T) : Prop where
  lat : Lat N L ρ1 H1 (wD L D) ρ H h
  stp : Stp ρ1 H1 ρ H
  lst : ∃ ys, H D = some (.lst ys) ∧ Reps N (wD L D) ρ H acc ys
theorem Lc.step {L : Al} {ρ1 ρ ρ' : Ro} {H1 H H' : Hp} {D : Addr} {h h' : Sto} {acc : List T} (l : Lc N L ρ1 H1 D ρ H h acc) (s : Stp ρ H ρ' H') (S : StoOk N (wD L D) ρ' H' h') : Lc N L ρ1 H1 D ρ' H' h' acc := by
  obtain ⟨ys, e, r⟩ := l.lst
  exact ⟨⟨l.lat.mv.trans s.mv, S⟩, l.stp.trans s, ys, s.keep D _ e (l.lat.sto.out D (.inr rfl)).2, r.stp s⟩
theorem Lc.first {L : Al} {ρ : Ro} {H : Hp} {D : Addr} {h : Sto} (S : StoOk N L ρ H h) (n : H D = none) : Lc N L ρ H D ρ (upd H D (.lst [])) h [] :=
  ⟨⟨mv_own S n, S.own n⟩, stp_upd S n, [], upd_same, rfl⟩
theorem Lc.push {L : Al} {ρ1 ρ : Ro} {H1 H : Hp} {D : Addr} {h : Sto} {acc : List T} {t : T} {y : V} (l : Lc N L ρ1 H1 D ρ H h acc) (hn : H1 D = none) (r : Rep N (wD L D) ρ H t y) :
    ∃ ys, H D = some (.lst ys) ∧ ys.length = acc.length ∧ Lc N L ρ1 H1 D ρ (upd H D (.lst (ys ++ [y]))) h (acc ++ [t]) ∧ Mv N (wD L D) ρ H (wD L D) ρ (upd H D (.lst (ys ++ [y]))) := by
  obtain ⟨ys, e, q⟩ := l.lst
  have M : Mv N (wD L D) ρ H (wD L D) ρ (upd H D (.lst (ys ++ [y]))) := mv_put (.inr rfl) e
  refine ⟨ys, e, q.length.symm, ⟨⟨l.lat.mv.trans M, l.lat.sto.put (.inr rfl) e⟩, ⟨l.stp.liv, fun a o ea hr => ?_, l.stp.old, l.stp.ref⟩, _, upd_same, (q.mv M).append ⟨_, _, rfl, r.mv M, rfl⟩⟩, M⟩
  rw [upd_ne (ne_of_none ea hn)]
  exact l.stp.keep a o ea hr
def lcT (m : Bool) (acc : List T) : List T → M T := fun ys => if (acc ++ ys).length ≤ sizeLine then mkL m (acc ++ ys) else no
theorem lcT_cons (m : Bool) (acc : List T) (y : T) : (fun ys => lcT m acc (y :: ys)) = lcT m (acc ++ [y]) := by
  funext ys
  unfold lcT
  rw [List.append_assoc]
  rfl
/-- what stands behind a loop that gathers -/
structure Kc (K : List T → List T → M T) : Prop where
  cons : ∀ acc y ys, K acc (y :: ys) = K (acc ++ [y]) ys
  len : ∀ acc ys N L ρ H h Q, Go N L ρ H (K acc ys h) Q → acc.length + ys.length ≤ sizeLine
theorem kc_lcT (m : Bool) : Kc (lcT m) where
  cons := fun acc y ys => congrFun (lcT_cons m acc y) ys
  len := fun acc ys N L ρ H h Q o => by
    have := o.iteN.1
    rw [List.length_append] at this
    exact this
theorem compL_item {K : List T → List T → M T} (kc : Kc K) {f : T → M (Option T)} {g : M Unit} {x : T} {xs : List T} {h : Sto} {L : Al} {ρ : Ro} {H : Hp} {Q : VK} {acc : List T} (gd : ∀ h, g h = .ok () h ∨ g h = .no) (o : Go N L ρ H (bnd (compL g f (x :: xs)) (K acc) h) Q) :
    g h = .ok () h ∧ ∃ y h1, f x h = .ok y h1 ∧ match y with
      | some y => acc.length < sizeLine ∧ Go N L ρ H (bnd (compL g f xs) (K (acc ++ [y])) h1) Q
      | none => Go N L ρ H (bnd (compL g f xs) (K acc) h1) Q := by
  have o : Go N L ρ H (bnd (bnd g fun _ => bnd (f x) fun
    | some y => bnd (compL g f xs) fun ys => ret (y :: ys)
    | none => compL g f xs) (K acc) h) Q := o
  rw [bnd_assoc] at o
  obtain ⟨u, h0, e0, o⟩ := o.bnd
  rcases gd h with e | e
  · rw [e] at e0; cases e0
    refine ⟨e, ?_⟩
    rw [bnd_assoc] at o
    obtain ⟨y, h1, e1, o⟩ := o.bnd
    refine ⟨y, h1, e1, ?_⟩
    cases y with
    | none => exact o
    | some y =>
      have o : Go N L ρ H (bnd (bnd (compL g f xs) fun ys => ret (y :: ys)) (K acc) h1) Q := o
      rw [bnd_assoc] at o
      have o : Go N L ρ H (bnd (compL g f xs) (fun ys => K acc (y :: ys)) h1) Q := o
      rw [show (fun ys => K acc (y :: ys)) = K (acc ++ [y]) from funext fun ys => kc.cons acc y ys] at o
      refine ⟨?_, o⟩
      obtain ⟨ys, h2, e2, o⟩ := o.bnd
      have := kc.len _ _ _ _ _ _ _ _ o
      simp only [List.length_append, List.length_cons, List.length_nil] at this
      omega
  · rw [e] at e0; cases e0
theorem compL_done {K : List T → List T → M T} {f : T → M (Option T)} {g : M Unit} {h : Sto} {L : Al} {ρ : Ro} {H : Hp} {Q : VK} {acc : List T} (gd : ∀ h, g h = .ok () h ∨ g h = .no) (o : Go N L ρ H (bnd (compL g f []) (K acc) h) Q) :
    g h = .ok () h ∧ Go N L ρ H (K acc [] h) Q := by
  have o : Go N L ρ H (bnd (bnd g fun _ => ret []) (K acc) h) Q := o
  rw [bnd_assoc] at o
  obtain ⟨u, h0, e0, o⟩ := o.bnd
  rcases gd h with e | e
  · rw [e] at e0; cases e0
    exact ⟨e, o⟩
  · rw [e] at e0; cases e0
theorem lcT_nil {m : Bool} {h : Sto} {L : Al} {ρ : Ro} {H : Hp} {Q : VK} {acc : List T} (o : Go N L ρ H (lcT m acc [] h) Q) : Go N L ρ H (mkL m acc h) Q := by
  have o : Go N L ρ H ((if (acc ++ []).length ≤ sizeLine then mkL m (acc ++ []) else no) h) Q := o
  rw [List.append_nil] at o
  exact o.iteN.2
variable {elt tg iter : Expr} {ifs : List Expr} {scope : Scope} {own : List (Str × Nat)} {pos : Pos} {ns : Nat → Bool}
  {Ei : Env → M (List T × M Unit)} {At : T → Env → M Env} {Bt : Env → M Bool} {Ee : Env → M T} {m : Bool}
theorem lc_reads (hns : ∀ i, ns i = true → i ∈ own.map (·.2)) {σ : L2.St} {H : Hp} {Q : VK}
    (q : tOf N W (fun σ => bnd (Ei σ) fun r => nox (bnd (compL r.2 (fun x => bnd (At x (wipe σ (own.map (·.2)))) fun σ' => bnd (Bt σ') fun t => if t then bnd (Ee σ') fun y => ret (some y) else ret none) r.1) fun ys => if ys.length ≤ sizeLine then mkL m ys else no)) σ H Q) :
    tLc (tOfI N W Ei) (gOf N WF ns At) (tOfB N WF Bt) (tOf N WF Ee) (own.map (·.2)) σ H Q := by
  obtain ⟨L, ρ, h, σT, S, E, o⟩ := q
  refine ⟨L, ρ, h, σT, S, E, (o.bnd (rl := RI N)).imp fun J H1 ⟨ρ1, r, h1, _, s1, S1, IO, o1⟩ => fun D hD => ?_⟩
  obtain ⟨xs, g⟩ := r
  have E1 := E.stp s1
  have go := o1.nox
  have nl : ¬ L D := fun l => (S1.out D l).1 hD
  refine ⟨fun i k H' => k = xs.length - i ∧ i ≤ xs.length ∧ ∃ ρ' h' acc, Lc N L ρ1 H1 D ρ' H' h' acc ∧ Go N L ρ1 H1 (bnd (compL g (fun x => bnd (At x (wipe σT (own.map (·.2)))) fun σ' => bnd (Bt σ') fun t => if t then bnd (Ee σ') fun y => ret (some y) else ret none) (xs.drop i)) (lcT m acc) h') Q,
    ⟨xs.length, rfl, Nat.zero_le _, ρ1, h1, [], .first S1 hD, go⟩, ?_⟩
  rintro i k H' ⟨rfl, hi, ρ', h', acc, l, go⟩
  by_cases hlt : i < xs.length
  · rw [List.drop_eq_getElem_cons hlt] at go
    obtain ⟨gg, y, h2, ey, go2⟩ := compL_item (kc_lcT m) IO.gd go
    refine .inr ⟨IO.go _ _ _ _ i l.lat gg hlt, _, fun H'' w => ⟨xs.length - (i + 1), by omega, w⟩, fun x H2 yl => ?_⟩
    obtain ⟨s2, S2, t, et, rt⟩ := IO.yld _ _ _ _ i l.lat gg hlt x H2 yl
    rw [List.getElem?_eq_getElem hlt] at et; cases et
    have l2 := l.step s2 S2
    have E2 : ERel N (wD L D) ρ' H2 (wipe σT (own.map (·.2))) (L2.wipe σ (own.map (·.2))) := (ERel.wipe ⟨E1.1, fun i t e => let ⟨v, a1, a2⟩ := E1.2 i t e; ⟨v, a1, a2.mv l2.lat.mv⟩⟩ _)
    -- the target
    have ey' : bnd (At xs[i] (wipe σT (own.map (·.2)))) (fun σ' => bnd (Bt σ') fun t => if t then bnd (Ee σ') fun y => ret (some y) else ret none) h' = .ok y h2 := ey
    cases ea : At xs[i] (wipe σT (own.map (·.2))) h' with
    | no => unfold bnd at ey'; rw [ea] at ey'; cases ey'
    | ex _ _ => unfold bnd at ey'; rw [ea] at ey'; cases ey'
    | ok σT3 h3 =>
      have ey2 : bnd (Bt σT3) (fun t => if t then bnd (Ee σT3) fun y => ret (some y) else ret none) h3 = .ok y h2 := by
        unfold bnd at ey'; rw [ea] at ey'; exact ey'
      refine ⟨wD L D, ρ', h', _, _, S2, E2, rt, .part ea fun σ3 H3 ρ3 s3 S3 ⟨E3, a3⟩ => ⟨wipe_agr hns a3, ?_⟩⟩
      have l3 := l2.step s3 S3
      cases eb : Bt σT3 h3 with
      | no => unfold bnd at ey2; rw [eb] at ey2; cases ey2
      | ex _ _ => unfold bnd at ey2; rw [eb] at ey2; cases ey2
      | ok tv h4 =>
        have ey3 : (if tv then bnd (Ee σT3) fun y => ret (some y) else ret none : M (Option T)) h4 = .ok y h2 := by
          unfold bnd at ey2; rw [eb] at ey2; exact ey2
        refine ⟨wD L D, ρ3, h3, _, S3, E3, .part eb fun tb H4 ρ4 s4 S4 et => ?_⟩
        cases (show tv = tb from et)
        have l4 := l3.step s4 S4
        have E4 := E3.stp s4
        cases tv with
        | false =>
          cases (show R.ok (none : Option T) h4 = R.ok y h2 from ey3)
          exact ⟨rfl, hlt, ρ4, _, acc, l4, go2⟩
        | true =>
          cases ee : Ee σT3 h4 with
          | no => rw [if_pos rfl] at ey3; unfold bnd at ey3; rw [ee] at ey3; cases ey3
          | ex _ _ => rw [if_pos rfl] at ey3; unfold bnd at ey3; rw [ee] at ey3; cases ey3
          | ok v h5 =>
            rw [if_pos rfl] at ey3
            unfold bnd at ey3
            rw [ee] at ey3
            cases (show R.ok (some v) h5 = R.ok y h2 from ey3)
            refine ⟨wD L D, ρ4, h4, _, S4, E4, .part ee fun yv H5 ρ5 s5 S5 rv => ?_⟩
            have l5 := l4.step s5 S5
            obtain ⟨ys, e5, len5, l6, _⟩ := l5.push hD rv
            exact ⟨ys, e5, by rw [len5]; exact go2.1, rfl, hlt, ρ5, _, acc ++ [v], l6, go2.2⟩
  · have e : i = xs.length := by omega
    subst e
    rw [List.drop_length] at go
    obtain ⟨gg, go2⟩ := compL_done IO.gd go
    obtain ⟨ys, e5, r5⟩ := l.lst
    exact .inl ⟨IO.stop _ _ _ _ l.lat gg, give_lst hD nl l.stp l.lat.sto e5 r5 (lcT_nil go2)⟩
theorem pe_tlc (hc : X.calm = true) (hN : X.N.Nodup) (hi : PI X tg iter (tOfI N W Ei)) (ok : BlkOk X.N X.env.scope scope own) (hns : ∀ i, ns i = true → i ∈ own.map (·.2))
    (hg : ∀ (s : Shared) (H : Hp) (C : Addr) (cl : List (Str × Addr)) (fp : List Addr), PG (X.blk s H scope (compEnvC scope cl C X.env) fp) tg (gOf N WF ns At))
    (ht : ∀ (s : Shared) (H : Hp) (C : Addr) (cl : List (Str × Addr)) (fp : List Addr), PTs (X.blk s H scope (compEnvC scope cl C X.env) fp) ifs (tOfB N WF Bt))
    (he : ∀ (s : Shared) (H : Hp) (C : Addr) (cl : List (Str × Addr)) (fp : List Addr), PE (X.blk s H scope (compEnvC scope cl C X.env) fp) elt (tOf N WF Ee)) (hs : ∀ x, foldedSetIterable iter X.env x = pure x) :
    PE X (.ListComp elt [⟨tg, iter, ifs, 0⟩] scope pos) (tOf N W fun σ => bnd (Ei σ) fun r => nox (bnd (compL r.2 (fun x => bnd (At x (wipe σ (own.map (·.2)))) fun σ' => bnd (Bt σ') fun t => if t then bnd (Ee σ') fun y => ret (some y) else ret none) r.1) fun ys => if ys.length ≤ sizeLine then mkL m ys else no)) :=
  (pe_lc hc hN hi ok hg ht he hs).imp fun σ H Q q => lc_reads hns q

/-! ### two clauses -/
variable {tg1 iter1 : Expr} {ifs1 : List Expr} {vs1 : List Nat} {ns1 : Nat → Bool} {Ei1 : Env → M (List T × M Unit)} {At1 : T → Env → M Env} {Bt1 : Env → M Bool}
def lcK (m : Bool) (c : M (List T)) (acc : List T) : List T → M T := fun ys => bnd c (lcT m (acc ++ ys))
theorem kc_lcK (m : Bool) (c : M (List T)) : Kc (lcK m c) where
  cons := fun acc y ys => by
    unfold lcK
    rw [List.append_assoc]
    rfl
  len := fun acc ys N L ρ H h Q o => by
    obtain ⟨zs, h1, _, o⟩ := o.bnd
    have := (kc_lcT m).len _ _ _ _ _ _ _ _ o
    rw [List.length_append] at this
    omega
theorem compL2_item {f : T → M (List T)} {g : M Unit} {x : T} {xs : List T} {h : Sto} {L : Al} {ρ : Ro} {H : Hp} {Q : VK} {acc : List T} (gd : ∀ h, g h = .ok () h ∨ g h = .no) (o : Go N L ρ H (bnd (compL2 g f (x :: xs)) (lcT m acc) h) Q) :
    g h = .ok () h ∧ Go N L ρ H (bnd (f x) (lcK m (compL2 g f xs) acc) h) Q := by
  have o : Go N L ρ H (bnd (bnd g fun _ => bnd (f x) fun ys => bnd (compL2 g f xs) fun zs => ret (ys ++ zs)) (lcT m acc) h) Q := o
  rw [bnd_assoc] at o
  obtain ⟨u, h0, e0, o⟩ := o.bnd
  rcases gd h with e | e
  · rw [e] at e0; cases e0
    refine ⟨e, ?_⟩
    rw [bnd_assoc] at o
    have q : (fun ys => bnd (bnd (compL2 g f xs) fun zs => ret (ys ++ zs)) (lcT m acc)) = lcK m (compL2 g f xs) acc := by
      funext ys
      rw [bnd_assoc]
      unfold lcK
      congr 1
      funext zs
      show lcT m acc (ys ++ zs) = _
      unfold lcT
      rw [List.append_assoc]
    have o : Go N L ρ H (bnd (f x) (fun ys => bnd (bnd (compL2 g f xs) fun zs => ret (ys ++ zs)) (lcT m acc)) h) Q := o
    rw [q] at o
    exact o
  · rw [e] at e0; cases e0
theorem compL2_done {f : T → M (List T)} {g : M Unit} {h : Sto} {L : Al} {ρ : Ro} {H : Hp} {Q : VK} {acc : List T} (gd : ∀ h, g h = .ok () h ∨ g h = .no) (o : Go N L ρ H (bnd (compL2 g f []) (lcT m acc) h) Q) :
    g h = .ok () h ∧ Go N L ρ H (mkL m acc h) Q := by
  have o : Go N L ρ H (bnd (bnd g fun _ => ret []) (lcT m acc) h) Q := o
  rw [bnd_assoc] at o
  obtain ⟨u, h0, e0, o⟩ := o.bnd
  rcases gd h with e | e
  · rw [e] at e0; cases e0
    exact ⟨e, lcT_nil o⟩
  · rw [e] at e0; cases e0
theorem Go.toOut {α β : Type} {rl : Rl α β} {c : M α} {f : α → M T} {L L' : Al} {ρ ρ1 : Ro} {H H1 : Hp} {h : Sto} {Q : VK} {Wx : XK} {Q' : β → Hp → Prop} (o : Go N L ρ1 H1 (Mt.bnd c f h) Q) (k : ∀ a h1 b H' ρ', c h = .ok a h1 → Go N L ρ1 H1 (f a h1) Q → Stp ρ H ρ' H' → StoOk N L' ρ' H' h1 → rl L' ρ' H' a b → Q' b H') : Out N rl Wx L' ρ H (c h) Q' := by
  obtain ⟨a, h1, e, o⟩ := o.bnd
  exact .inl ⟨a, h1, e, fun b H' ρ' s S r => k a h1 b H' ρ' e o s S r⟩
theorem lc2_reads (hns : ∀ i, ns i = true → i ∈ own.map (·.2)) (hns1 : ∀ i, ns1 i = true → i ∈ vs1) {σ : L2.St} {H : Hp} {Q : VK}
    (q : tOf N W (fun σ => bnd (Ei σ) fun r => nox (bnd (compL2 r.2 (fun x => bnd (At x (wipe σ (own.map (·.2)))) fun σ' => bnd (Bt σ') fun t => if t then bnd (Ei1 σ') fun r' => compL r'.2 (fun x' => bnd (At1 x' (wipe σ' vs1)) fun σ'' => bnd (Bt1 σ'') fun t' =>
        if t' then bnd (Ee σ'') fun y => ret (some y) else ret none) r'.1 else ret []) r.1) fun ys => if ys.length ≤ sizeLine then mkL m ys else no)) σ H Q) :
    tLc2 (tOfI N W Ei) (gOf N WF ns At) (tOfB N WF Bt) (tOfI N WF Ei1) (gOf N WF ns1 At1) (tOfB N WF Bt1) (tOf N WF Ee) (own.map (·.2)) vs1 σ H Q := by
  obtain ⟨L, ρ, h, σT, S, E, o⟩ := q
  refine ⟨L, ρ, h, σT, S, E, (o.bnd (rl := RI N)).imp fun J H1 ⟨ρ1, r, h1, _, s1, S1, IO, o1⟩ => fun D hD => ?_⟩
  obtain ⟨xs, g⟩ := r
  have E1 := E.stp s1
  have go := o1.nox
  have nl : ¬ L D := fun l => (S1.out D l).1 hD
  generalize hf : (fun x => bnd (At x (wipe σT (own.map (·.2)))) fun σ' => bnd (Bt σ') fun t => if t then bnd (Ei1 σ') fun r' => compL r'.2 (fun x' => bnd (At1 x' (wipe σ' vs1)) fun σ'' => bnd (Bt1 σ'') fun t' =>
        if t' then bnd (Ee σ'') fun y => ret (some y) else ret none) r'.1 else ret []) = f at go
  refine ⟨fun i k H' => k = xs.length - i ∧ i ≤ xs.length ∧ ∃ ρ' h' acc, Lc N L ρ1 H1 D ρ' H' h' acc ∧ Go N L ρ1 H1 (bnd (compL2 g f (xs.drop i)) (lcT m acc) h') Q,
    ⟨xs.length, rfl, Nat.zero_le _, ρ1, h1, [], .first S1 hD, go⟩, ?_⟩
  rintro i k H' ⟨rfl, hi, ρ', h', acc, l, go⟩
  by_cases hlt : i < xs.length
  · rw [List.drop_eq_getElem_cons hlt] at go
    obtain ⟨gg, go⟩ := compL2_item IO.gd go
    refine .inr ⟨IO.go _ _ _ _ i l.lat gg hlt, _, fun H'' w => ⟨xs.length - (i + 1), by omega, w⟩, fun x H2 yl => ?_⟩
    obtain ⟨s2, S2, t, et, rt⟩ := IO.yld _ _ _ _ i l.lat gg hlt x H2 yl
    rw [List.getElem?_eq_getElem hlt] at et; cases et
    have l2 := l.step s2 S2
    have E2 : ERel N (wD L D) ρ' H2 (wipe σT (own.map (·.2))) (L2.wipe σ (own.map (·.2))) := (ERel.wipe ⟨E1.1, fun i t e => let ⟨v, a1, a2⟩ := E1.2 i t e; ⟨v, a1, a2.mv l2.lat.mv⟩⟩ _)
    rw [show f xs[i] = _ from (congrFun hf xs[i]).symm] at go
    dsimp only at go
    rw [bnd_assoc] at go
    refine ⟨wD L D, ρ', h', _, _, S2, E2, rt, go.toOut fun σT3 h3 σ3 H3 ρ3 _ go s3 S3 ⟨E3, a3⟩ => ⟨wipe_agr hns a3, ?_⟩⟩
    have l3 := l2.step s3 S3
    rw [bnd_assoc] at go
    refine ⟨wD L D, ρ3, h3, _, S3, E3, go.toOut fun tv h4 tb H4 ρ4 _ go s4 S4 et => ?_⟩
    cases (show tv = tb from et)
    have l4 := l3.step s4 S4
    have E4 := E3.stp s4
    cases tv with
    | false =>
      have go : Go N L ρ1 H1 (lcK m (compL2 g f (xs.drop (i + 1))) acc [] h4) Q := go
      unfold lcK at go
      rw [List.append_nil] at go
      exact ⟨rfl, hlt, ρ4, _, acc, l4, go⟩
    | true =>
      rw [if_pos rfl] at go
      rw [bnd_assoc] at go
      refine ⟨wD L D, ρ4, h4, _, S4, E4, go.toOut fun r1 h5 J1 H5 ρ5 _ go s5 S5 IO1 => ?_⟩
      obtain ⟨xs1, g1⟩ := r1
      have l5 := l4.step s5 S5
      have E5 := E4.stp s5
      refine ⟨fun j k H' => k = xs1.length - j ∧ j ≤ xs1.length ∧ ∃ ρ' h' acc, Lc N L ρ1 H1 D ρ' H' h' acc ∧ Mv N (wD L D) ρ5 H5 (wD L D) ρ' H' ∧ Go N L ρ1 H1 (bnd (compL g1 (fun x' => bnd (At1 x' (wipe σT3 vs1)) fun σ'' => bnd (Bt1 σ'') fun t' =>
        if t' then bnd (Ee σ'') fun y => ret (some y) else ret none) (xs1.drop j)) (lcK m (compL2 g f (xs.drop (i + 1))) acc) h') Q, ⟨xs1.length, rfl, Nat.zero_le _, ρ5, h5, acc, l5, .refl, go⟩, ?_⟩
      rintro j k H6 ⟨rfl, hj, ρ6, h6, acc6, l6, M6, go⟩
      by_cases hlj : j < xs1.length
      · rw [List.drop_eq_getElem_cons hlj] at go
        obtain ⟨gg1, y, h7, ey, go2⟩ := compL_item (kc_lcK m _) IO1.gd go
        refine .inr ⟨IO1.go _ _ _ _ j ⟨M6, l6.lat.sto⟩ gg1 hlj, _, fun H'' w => ⟨xs1.length - (j + 1), by omega, w⟩, fun x H7 yl => ?_⟩
        obtain ⟨s7, S7, t, et, rt⟩ := IO1.yld _ _ _ _ j ⟨M6, l6.lat.sto⟩ gg1 hlj x H7 yl
        rw [List.getElem?_eq_getElem hlj] at et; cases et
        have l7 := l6.step s7 S7
        have M7 := M6.trans s7.mv
        have E7 : ERel N (wD L D) ρ6 H7 (wipe σT3 vs1) (L2.wipe σ3 vs1) := (E5.mv M7).wipe _
        have ey' : bnd (At1 xs1[j] (wipe σT3 vs1)) (fun σ'' => bnd (Bt1 σ'') fun t' => if t' then bnd (Ee σ'') fun y => ret (some y) else ret none) h6 = .ok y h7 := ey
        cases ea : At1 xs1[j] (wipe σT3 vs1) h6 with
        | no => unfold bnd at ey'; rw [ea] at ey'; cases ey'
        | ex _ _ => unfold bnd at ey'; rw [ea] at ey'; cases ey'
        | ok σT8 h8 =>
          have ey2 : bnd (Bt1 σT8) (fun t => if t then bnd (Ee σT8) fun y => ret (some y) else ret none) h8 = .ok y h7 := by
            unfold bnd at ey'; rw [ea] at ey'; exact ey'
          refine ⟨wD L D, ρ6, h6, _, _, S7, E7, rt, .part ea fun σ8 H8 ρ8 s8 S8 ⟨E8, a8⟩ => ⟨wipe_agr hns1 a8, ?_⟩⟩
          have l8 := l7.step s8 S8
          have M8 := M7.trans s8.mv
          cases eb : Bt1 σT8 h8 with
          | no => unfold bnd at ey2; rw [eb] at ey2; cases ey2
          | ex _ _ => unfold bnd at ey2; rw [eb] at ey2; cases ey2
          | ok tv h9 =>
            have ey3 : (if tv then bnd (Ee σT8) fun y => ret (some y) else ret none : M (Option T)) h9 = .ok y h7 := by
              unfold bnd at ey2; rw [eb] at ey2; exact ey2
            refine ⟨wD L D, ρ8, h8, _, S8, E8, .part eb fun tb H9 ρ9 s9 S9 et => ?_⟩
            cases (show tv = tb from et)
            have l9 := l8.step s9 S9
            have M9 := M8.trans s9.mv
            have E9 := E8.stp s9
            cases tv with
            | false =>
              cases (show R.ok (none : Option T) h9 = R.ok y h7 from ey3)
              exact ⟨rfl, hlj, ρ9, _, acc6, l9, M9, go2⟩
            | true =>
              cases ee : Ee σT8 h9 with
              | no => rw [if_pos rfl] at ey3; unfold bnd at ey3; rw [ee] at ey3; cases ey3
              | ex _ _ => rw [if_pos rfl] at ey3; unfold bnd at ey3; rw [ee] at ey3; cases ey3
              | ok v h10 =>
                rw [if_pos rfl] at ey3
                unfold bnd at ey3
                rw [ee] at ey3
                cases (show R.ok (some v) h10 = R.ok y h7 from ey3)
                refine ⟨wD L D, ρ9, h9, _, S9, E9, .part ee fun yv H10 ρ10 s10 S10 rv => ?_⟩
                have l10 := l9.step s10 S10
                have M10 := M9.trans s10.mv
                obtain ⟨ys, e5, len5, l11, M11⟩ := l10.push hD rv
                exact ⟨ys, e5, by rw [len5]; exact go2.1, rfl, hlj, ρ10, _, acc6 ++ [v], l11, M10.trans M11, go2.2⟩
      · have e : j = xs1.length := by omega
        subst e
        rw [List.drop_length] at go
        obtain ⟨gg1, go2⟩ := compL_done IO1.gd go
        unfold lcK at go2
        rw [List.append_nil] at go2
        exact .inl ⟨IO1.stop _ _ _ _ ⟨M6, l6.lat.sto⟩ gg1, rfl, hlt, ρ6, h6, acc6, l6, go2⟩
  · have e : i = xs.length := by omega
    subst e
    rw [List.drop_length] at go
    obtain ⟨gg, go2⟩ := compL2_done IO.gd go
    obtain ⟨ys, e5, r5⟩ := l.lst
    exact .inl ⟨IO.stop _ _ _ _ l.lat gg, give_lst hD nl l.stp l.lat.sto e5 r5 go2⟩
theorem pe_tlc2 (hc : X.calm = true) (hN : X.N.Nodup) (hi : PI X tg iter (tOfI N W Ei)) (ok : BlkOk X.N X.env.scope scope own) (hv : ∀ i ∈ vs1, i ∈ own.map (·.2)) (hns : ∀ i, ns i = true → i ∈ own.map (·.2)) (hns1 : ∀ i, ns1 i = true → i ∈ vs1)
    (hg : ∀ (s : Shared) (H : Hp) (C : Addr) (cl : List (Str × Addr)) (fp : List Addr), PG (X.blk s H scope (compEnvC scope cl C X.env) fp) tg (gOf N WF ns At))
    (ht : ∀ (s : Shared) (H : Hp) (C : Addr) (cl : List (Str × Addr)) (fp : List Addr), PTs (X.blk s H scope (compEnvC scope cl C X.env) fp) ifs (tOfB N WF Bt))
    (hi1 : ∀ (s : Shared) (H : Hp) (C : Addr) (cl : List (Str × Addr)) (fp : List Addr), PI (X.blk s H scope (compEnvC scope cl C X.env) fp) tg1 iter1 (tOfI N WF Ei1))
    (hg1 : ∀ (s : Shared) (H : Hp) (C : Addr) (cl : List (Str × Addr)) (fp : List Addr), PG (X.blk s H scope (compEnvC scope cl C X.env) fp) tg1 (gOf N WF ns1 At1))
    (ht1 : ∀ (s : Shared) (H : Hp) (C : Addr) (cl : List (Str × Addr)) (fp : List Addr), PTs (X.blk s H scope (compEnvC scope cl C X.env) fp) ifs1 (tOfB N WF Bt1))
    (he : ∀ (s : Shared) (H : Hp) (C : Addr) (cl : List (Str × Addr)) (fp : List Addr), PE (X.blk s H scope (compEnvC scope cl C X.env) fp) elt (tOf N WF Ee)) (hs : ∀ x, foldedSetIterable iter X.env x = pure x) (hs1 : ∀ env x, foldedSetIterable iter1 env x = pure x) :
    PE X (.ListComp elt [⟨tg, iter, ifs, 0⟩, ⟨tg1, iter1, ifs1, 0⟩] scope pos) (tOf N W (fun σ => bnd (Ei σ) fun r => nox (bnd (compL2 r.2 (fun x => bnd (At x (wipe σ (own.map (·.2)))) fun σ' => bnd (Bt σ') fun t => if t then bnd (Ei1 σ') fun r' => compL r'.2 (fun x' => bnd (At1 x' (wipe σ' vs1)) fun σ'' => bnd (Bt1 σ'') fun t' =>
        if t' then bnd (Ee σ'') fun y => ret (some y) else ret none) r'.1 else ret []) r.1) fun ys => if ys.length ≤ sizeLine then mkL m ys else no))) :=
  (pe_lc2 hc hN hi ok hv hg ht hi1 hg1 ht1 he hs hs1).imp fun σ H Q q => lc2_reads hns hns1 q
end
end Mt

set_option maxHeartbeats 8000000
/-! Mt11: statements. -/
namespace Mt
open PySem PySem.Spec PyProof.Rows L2

inductive FlV where
  | nx (σ : L2.St) | rt (v : V)
abbrev RF (N : Nm) (σ : L2.St) (ns : Nat → Bool) : Rl (Fl × Env) FlV := fun L ρ H r b => match r.1, b with
  | .nx, .nx σ' => ERel N L ρ H r.2 σ' ∧ Agr ns σ σ'
  | .rt t, .rt v => Rep N L ρ H t v
  | _, _ => False
def Dk (D : Ends) : FlV → Hp → Prop := fun b H => match b with
  | .nx σ => D.nx σ H
  | .rt v => D.rt v H
def tOfS (N : Nm) (W : WX) (ns : Nat → Bool) (E : Env → M (Fl × Env)) : TS := fun D σ H => ∃ L ρ h σT, StoOk N L ρ H h ∧ ERel N L ρ H σT σ ∧ Out N (RF N σ ns) (WS ns W σ) L ρ H (E σT h) (Dk D)
section
variable {N : Nm} {W : WX} {ns : Nat → Bool} {L : Al} {ρ ρ' : Ro} {H H' : Hp} {h h' : Sto} {σ σ' : L2.St} {σT : Env}
/-- behind a step that changed names -/
theorem Out.agr {r : R (Fl × Env)} {Q : FlV → Hp → Prop} (a : Agr ns σ σ') (o : Out N (RF N σ ns) (WS ns W σ) L ρ H r Q) : Out N (RF N σ' ns) (WS ns W σ') L ρ H r Q :=
  (o.rel fun L ρ H x b q => by
    obtain ⟨f, e⟩ := x
    cases f <;> cases b
    · exact ⟨q.1, a.trans q.2⟩
    · exact q
    · exact q
    · exact q).wish (WS.agr a)
theorem Out.nx {D : Ends} (o : Out N (RF N σ ns) (WS ns W σ) L ρ H (Mt.ret (Fl.nx, σT) h) (Dk D)) (S : StoOk N L ρ H h) (E : ERel N L ρ H σT σ') (a : Agr ns σ σ') : D.nx σ' H := Mt.Out.ret (b := FlV.nx σ') o S ⟨E, a⟩
theorem Out.rt {D : Ends} {t : T} {v : V} (o : Out N (RF N σ ns) (WS ns W σ) L ρ H (Mt.ret (Fl.rt t, σT) h) (Dk D)) (S : StoOk N L ρ H h) (r : Rep N L ρ H t v) : D.rt v H := Mt.Out.ret (b := FlV.rt v) o S r
end
section
variable {N : Nm} {X : Cx} (hK : X.K = N.K) {W : WX} {ns : Nat → Bool} {a b c e tg it : Expr} {st : Stmt} {rest body orelse : List Stmt} {Ea Eb Ee : Env → M T} {Bc : Env → M Bool} {A : T → Env → M Env} {S1 S2 : Env → M (Fl × Env)} {Ei : Env → M (List T × M Unit)} {pos : Pos}
theorem pss_tnil : PSs X [] (tOfS N W ns fun σ => ret (.nx, σ)) := pss_nil.imp fun D σ H ⟨L, ρ, h, σT, S, E, o⟩ => o.nx S E .refl
theorem pss_tcons (h1 : PS X st (tOfS N W ns S1)) (h2 : PSs X rest (tOfS N W ns S2)) : PSs X (st :: rest) (tOfS N W ns fun σ => bnd (S1 σ) fun q => match q.1 with
    | .nx => S2 q.2
    | .rt v => ret (.rt v, q.2)) := (pss_cons h1 h2).imp fun D σ H ⟨L, ρ, h, σT, S, E, o⟩ => ⟨L, ρ, h, σT, S, E, (o.bnd (rl := RF N σ ns)).imp fun b H1 ⟨ρ1, r, h1, _, s1, S1, q, o1⟩ => by
  obtain ⟨f, σT1⟩ := r
  cases f with
  | nx => cases b with
    | nx σ1 => exact ⟨L, ρ1, h1, σT1, S1, q.1, o1.agr q.2⟩
    | rt v => exact q.elim
  | rt t => cases b with
    | nx σ1 => exact q.elim
    | rt v => exact o1.rt S1 q⟩
theorem ps_tpass : PS X (.Pass pos) (tOfS N W ns fun σ => ret (.nx, σ)) := ps_pass.imp fun D σ H ⟨L, ρ, h, σT, S, E, o⟩ => o.nx S E .refl
theorem ps_tdoc {x j pos'} : PS X (.Expr (.Constant (.str x) j pos) pos') (tOfS N W ns fun σ => ret (.nx, σ)) := ps_doc.imp fun D σ H ⟨L, ρ, h, σT, S, E, o⟩ => o.nx S E .refl
theorem ps_tnever : PS X st (tOfS N W ns fun _ => no) := ps_never.imp fun D σ H ⟨L, ρ, h, σT, S, E, o⟩ => o.no.elim
theorem ps_texpr (he : PE X e (tOf N W Ee)) (hs : swapsWith e none pos.line X.env = pure false) : PS X (.Expr e pos) (tOfS N W ns fun σ => bnd (Ee σ) fun _ => ret (.nx, σ)) :=
  (ps_expr he hs).imp fun D σ H ⟨L, ρ, h, σT, S, E, o⟩ => ⟨L, ρ, h, σT, S, E, ((o.bnd (rl := RT N)).wish WS.we).imp fun x H1 ⟨ρ1, t, h1, _, s1, S1, r1, o1⟩ => o1.nx S1 (E.stp s1) .refl⟩
/-- target = value -/
theorem asg_reads {D : Ends} {σ : L2.St} {H : Hp} (q : tOfS N W ns (fun σ => bnd (Ee σ) fun v => bnd (A v σ) fun σ' => ret (.nx, σ')) D σ H) : tAsg (tOf N W Ee) (gOf N W ns A) D σ H := by
  obtain ⟨L, ρ, h, σT, S, E, o⟩ := q
  exact ⟨L, ρ, h, σT, S, E, ((o.bnd (rl := RT N)).wish WS.we).imp fun x H1 ⟨ρ1, t, h1, _, s1, S1, r1, o1⟩ =>
    ⟨L, ρ1, h1, σT, t, S1, E.stp s1, r1, (o1.bnd (rl := RE N σ ns)).imp fun σ2 H2 ⟨ρ2, σT2, h2, _, s2, S2, ⟨E2, a2⟩, o2⟩ => o2.nx S2 E2 a2⟩⟩
theorem ps_tasg (he : PE X e (tOf N W Ee)) (hg : PG X tg (gOf N W ns A)) (hs : swapsWithSole [tg] e pos.line X.env = pure false) (hw : swappedStores [tg] e X.env = pure none) (h1 : (assignEach [tg] X.env).map (·.2) = [assign tg X.env]) :
    PS X (.Assign [tg] e pos) (tOfS N W ns fun σ => bnd (Ee σ) fun v => bnd (A v σ) fun σ' => ret (.nx, σ')) := (ps_asg he hg hs hw h1).imp fun D σ H q => asg_reads q
theorem ps_tret (he : PE X e (tOf N W Ee)) : PS X (.Return (some e) pos) (tOfS N W ns fun σ => bnd (Ee σ) fun v => ret (.rt v, σ)) :=
  (ps_ret he).imp fun D σ H ⟨L, ρ, h, σT, S, E, o⟩ => ⟨L, ρ, h, σT, S, E, ((o.bnd (rl := RT N)).wish WS.we).imp fun x H1 ⟨ρ1, t, h1, _, s1, S1, r1, o1⟩ => o1.rt S1 r1⟩
theorem ps_tretN : PS X (.Return none pos) (tOfS N W ns fun σ => ret (.rt .non, σ)) := ps_retN.imp fun D σ H ⟨L, ρ, h, σT, S, E, o⟩ => o.rt (t := .non) (v := .non) S (show Rep N L ρ H .non .non from rfl)
theorem ps_tif (hc : PT X c (tOfB N W Bc)) (ha : PSs X body (tOfS N W ns S1)) (hb : PSs X orelse (tOfS N W ns S2)) : PS X (.If c body orelse pos) (tOfS N W ns fun σ => bnd (Bc σ) fun t => if t then S1 σ else S2 σ) :=
  (ps_if hc ha hb).imp fun D σ H ⟨L, ρ, h, σT, S, E, o⟩ => ⟨L, ρ, h, σT, S, E, ((o.bnd (rl := RB)).wish WS.we).imp fun x H1 ⟨ρ1, t, h1, _, s1, S1, r1, o1⟩ => by
    cases (show t = x from r1)
    cases x with
    | true => exact ⟨L, ρ1, h1, σT, S1, E.stp s1, o1⟩
    | false => exact ⟨L, ρ1, h1, σT, S1, E.stp s1, o1⟩⟩
theorem ps_twhile (hp : PassesOwn (model X.prog X.w) X.A X.env X.xe) (hc : PT X c (tOfB N W Bc)) (hb : PSs X body (tOfS N W ns S1)) (n : Nat) : PS X (.While c body [] pos) (tOfS N W ns fun σ => whlL Bc S1 n σ) :=
  (ps_while hp hc hb).imp fun D σ H ⟨L, ρ, h, σT, S, E, o⟩ => by
    refine ⟨fun m σ' H' => ∃ L ρ h σT, StoOk N L ρ H' h ∧ ERel N L ρ H' σT σ' ∧ Out N (RF N σ' ns) (WS ns W σ') L ρ H' (whlL Bc S1 m σT h) (Dk D), ⟨n, L, ρ, h, σT, S, E, o⟩, ?_⟩
    rintro m σ' H' ⟨L, ρ, h, σT, S, E, o⟩
    cases m with
    | zero => exact o.no.elim
    | succ m =>
      refine ⟨L, ρ, h, σT, S, E, ((o.bnd (rl := RB)).wish WS.we).imp fun x H1 ⟨ρ1, t, h1, _, s1, S1, r1, o1⟩ => ?_⟩
      cases (show t = x from r1)
      have E1 := E.stp s1
      cases x with
      | false => exact o1.nx S1 E1 .refl
      | true =>
        refine ⟨_, fun σ2 H2 w => ⟨m, Nat.lt_succ_self _, w⟩, L, ρ1, h1, σT, S1, E1, (o1.bnd (rl := RF N σ' ns)).imp fun b H2 ⟨ρ2, r, h2, _, s2, S2, q, o2⟩ => ?_⟩
        obtain ⟨f, σT2⟩ := r
        cases f with
        | nx => cases b with
          | nx σ2 => exact ⟨L, ρ2, h2, σT2, S2, q.1, o2.agr q.2⟩
          | rt v => exact q.elim
        | rt t => cases b with
          | nx σ1 => exact q.elim
          | rt v => exact o2.rt S2 q
theorem ps_tfor (hp : PassesOwn (model X.prog X.w) X.A X.env X.xe) (hc : X.calm = true) (hi : PI X tg it (tOfI N W Ei)) (hg : PG X tg (gOf N W ns A)) (hb : PSs X body (tOfS N W ns S1)) (hs : ∀ x, foldedSetIterable it X.env x = pure x) :
    PS X (.For tg it body [] pos) (tOfS N W ns fun σ => bnd (Ei σ) fun r => forL r.2 (fun x σ => bnd (A x σ) S1) r.1 σ) :=
  (ps_for hp hc hi hg hb hs).imp fun D σ H ⟨L, ρ, h, σT, S, E, o⟩ => ⟨L, ρ, h, σT, S, E, ((o.bnd (rl := RI N)).wish WS.we).imp fun J H1 ⟨ρ1, r, h1, _, s1, S1', IO, o1⟩ => by
    obtain ⟨xs, g⟩ := r
    have E1 := E.stp s1
    refine ⟨fun i m σ' H' => m = xs.length - i ∧ i ≤ xs.length ∧ ∃ ρ h σT, Mv N L ρ1 H1 L ρ H' ∧ StoOk N L ρ H' h ∧ ERel N L ρ H' σT σ' ∧ Out N (RF N σ' ns) (WS ns W σ') L ρ H' (forL g (fun x σ => bnd (A x σ) S1) (xs.drop i) σT h) (Dk D),
      ⟨xs.length, rfl, Nat.zero_le _, ρ1, h1, σT, .refl, S1', E1, o1⟩, ?_⟩
    rintro i m σ' H' ⟨rfl, hi, ρ, h, σT, Mv, S, E, o⟩
    by_cases hlt : i < xs.length
    · rw [List.drop_eq_getElem_cons hlt] at o
      have o : Out N (RF N σ' ns) (WS ns W σ') L ρ H' (bnd g (fun _ => bnd (bnd (A xs[i] σT) S1) fun r => match r.1 with
        | .nx => forL g (fun x σ => bnd (A x σ) S1) (xs.drop (i + 1)) r.2
        | .rt v => ret (.rt v, r.2)) h) (Dk D) := o
      rcases (show g h = .ok () h ∨ g h = .no from IO.gd h) with eg | eg
      · unfold bnd at o
        rw [eg] at o
        refine .inr ⟨IO.go _ _ _ _ i ⟨Mv, S⟩ eg hlt, _, fun σ2 H2 w => ⟨xs.length - (i + 1), by omega, w⟩, fun x H2 yl => ?_⟩
        obtain ⟨s2, S2, t, et, rt⟩ := IO.yld _ _ _ _ i ⟨Mv, S⟩ eg hlt x H2 yl
        rw [List.getElem?_eq_getElem hlt] at et; cases et
        have o : Out N (RF N σ' ns) (WS ns W σ') L ρ H' (bnd (bnd (A xs[i] σT) S1) (fun r => match r.1 with
          | .nx => forL g (fun x σ => bnd (A x σ) S1) (xs.drop (i + 1)) r.2
          | .rt v => ret (.rt v, r.2)) h) (Dk D) := o
        rw [bnd_assoc] at o
        have o := o.step s2
        refine ⟨L, ρ, h, σT, _, S2, E.stp s2, rt, (o.bnd (rl := RE N σ' ns)).imp fun σ3 H3 ⟨ρ3, σT3, h3, _, s3, S3, ⟨E3, a3⟩, o3⟩ => ?_⟩
        refine ⟨L, ρ3, h3, σT3, S3, E3, ((o3.agr a3).bnd (rl := RF N σ3 ns)).imp fun b H4 ⟨ρ4, r, h4, _, s4, S4, q, o4⟩ => ?_⟩
        obtain ⟨f, σT4⟩ := r
        cases f with
        | nx => cases b with
          | nx σ4 => exact ⟨rfl, hlt, ρ4, h4, σT4, ((Mv.trans s2.mv).trans s3.mv).trans s4.mv, S4, q.1, o4.agr q.2⟩
          | rt v => exact q.elim
        | rt t => cases b with
          | nx σ1 => exact q.elim
          | rt v => exact o4.rt S4 q
      · unfold bnd at o
        rw [eg] at o
        exact o.no.elim
    · have e : i = xs.length := by omega
      subst e
      rw [List.drop_length] at o
      have o : Out N (RF N σ' ns) (WS ns W σ') L ρ H' (bnd g (fun _ => ret (Fl.nx, σT)) h) (Dk D) := o
      rcases (show g h = .ok () h ∨ g h = .no from IO.gd h) with eg | eg
      · unfold bnd at o
        rw [eg] at o
        exact .inl ⟨IO.stop _ _ _ _ ⟨Mv, S⟩ eg, o.nx S E .refl⟩
      · unfold bnd at o
        rw [eg] at o
        exact o.no.elim⟩
/-- name += e, ints -/
theorem ps_taug {i : Nat} {x : Str} {op : Operator} {f : Int → Int → Int} {pos' : Pos} (hN : X.N.Nodup) (hi : X.N[i]? = some x) (hx : Loc X.env.scope x) (hf : X.fn x = true ∨ X.env.scope.names.lookup x = some .local) (hn : ns i = true) (he : PE X e (tOf N W Ee)) (ho : PIp X op (ipI f)) :
    PS X (.AugAssign (.Name x pos') op e pos) (tOfS N W ns fun σ => bnd (ofO (σ[i]?.bind id)) fun u => bnd (Ee σ) fun y => bnd (match u, y with
      | .int a, .int b => ret (.int (f a b))
      | _, _ => (no : M T)) fun v => ret (.nx, σ.set i (some v))) := (ps_aug hN hi hx he ho hf).imp fun D σ H ⟨L, ρ, h, σT, S, E, o⟩ => by
  obtain ⟨u, eu, o⟩ := o.bndO
  cases q : σT[i]? with
  | none => rw [q] at eu; cases eu
  | some w =>
    rw [q] at eu
    cases w with
    | none => cases eu
    | some t' =>
      cases eu
      obtain ⟨v, h1, h2⟩ := E.2 i u q
      refine ⟨v, h1, L, ρ, h, σT, S, E, ((o.bnd (rl := RT N)).wish WS.we).imp fun y H1 ⟨ρ1, t, h1, _, s1, S1, r1, o1⟩ => ?_⟩
      have h2 := h2.stp s1
      cases u with
      | int j => cases t with
        | int k =>
          have o1 : Out N (RF N σ ns) (WS ns W σ) L ρ1 H1 (ret (Fl.nx, σT.set i (some (T.int (f j k)))) h1) (Dk D) := o1
          exact ⟨j, k, h2, r1, o1.nx S1 ((E.stp s1).set (show Rep N L ρ1 H1 (.int (f j k)) (.int (f j k)) from rfl) i) (.set hn)⟩
        | _ => exact o1.no.elim
      | _ => exact o1.no.elim
end
end Mt

set_option maxHeartbeats 8000000
/-! Mt12: what is frozen; how a def's run ends. -/
namespace Mt
open PySem PySem.Spec PyProof.Rows L2
section
variable {N : Nm} {L L' : Al} {ρ ρ' : Ro} {H H' : Hp} {h : Sto}
mutual
/-- r's answers lie as told, so does all -/
theorem frz_rep {r : Nat → Option T} (fz : ∀ a o, H a = some o → Fz L ρ a → Fz L' ρ' a ∧ H' a = some o) (st : ∀ a o, H a = some o → ¬ Lv (some o) → H' a = some o)
    (hr : ∀ i t a, ρ i = some a → r i = some t → Rep N L' ρ' H' t (.ref a)) : ∀ {t t' : T} {v : V}, frzW r t = some t' → Rep N L ρ H t v → Rep N L' ρ' H' t' v
  | .non, _, _, e, h => by cases e; exact h
  | .bl _, _, _, e, h => by cases e; exact h
  | .int _, _, _, e, h => by cases e; exact h
  | .str _, _, _, e, h => by cases e; exact h
  | .byt _, _, _, e, h => by cases e; exact h
  | .tup xs, t', _, e, ⟨a, ys, e1, q, rr⟩ => by
    have e : (frzWs r xs).map T.tup = some t' := e
    cases w : frzWs r xs with
    | none => rw [w] at e; cases e
    | some xs' =>
      rw [w] at e; cases e
      refine ⟨a, ys, e1, ?_, frzs_rep fz st hr w rr⟩
      rcases q with (q | ⟨o, q⟩) | q
      · exact .inl (.inl (st a _ q id))
      · exact .inl (.inr ⟨o, st a _ q id⟩)
      · exact .inr q
  | .lst xs, t', _, e, ⟨a, ys, e1, f, q, rr⟩ => by
    have e : (frzWs r xs).map T.lst = some t' := e
    cases w : frzWs r xs with
    | none => rw [w] at e; cases e
    | some xs' =>
      rw [w] at e; cases e
      obtain ⟨f1, f2⟩ := fz a _ q f
      exact ⟨a, ys, e1, f1, f2, frzs_rep fz st hr w rr⟩
  | .dic ks vs, t', _, e, ⟨a, ys, e1, f, q, rr⟩ => by
    have e : (frzWs r vs).map (T.dic ks) = some t' := e
    cases w : frzWs r vs with
    | none => rw [w] at e; cases e
    | some xs' =>
      rw [w] at e; cases e
      obtain ⟨o, z⟩ := q.some
      refine ⟨a, ys, e1, (fz a _ z f).1, ?_, frzs_rep fz st hr w rr⟩
      rcases q with ⟨kk, g1, g2, g⟩ | ⟨kk, g1, g2, g⟩
      · exact .inl ⟨kk, g1, g2, (fz a _ g f).2⟩
      · exact .inr ⟨kk, g1, g2, (fz a _ g f).2⟩
  | .obj c fs vs, t', _, e, ⟨a, ys, e1, f, ⟨dx, q, q2, q3⟩, rr⟩ => by
    have e : (frzWs r vs).map (T.obj c fs) = some t' := e
    cases w : frzWs r vs with
    | none => rw [w] at e; cases e
    | some xs' =>
      rw [w] at e; cases e
      obtain ⟨f1, f2⟩ := fz a _ q f
      exact ⟨a, ys, e1, f1, ⟨dx, f2, st dx _ q2 id, q3⟩, frzs_rep fz st hr w rr⟩
  | .ref n, t', _, e, ⟨a, e1, q⟩ => by subst e1; exact hr n t' a q e
  | .scr ns, _, _, e, ⟨a, e1, q⟩ => by
    cases e
    refine ⟨a, e1, ?_⟩
    rcases q with ⟨o, q⟩ | q
    · exact .inl ⟨o, st a _ q id⟩
    · exact .inr q
theorem frzs_rep {r : Nat → Option T} (fz : ∀ a o, H a = some o → Fz L ρ a → Fz L' ρ' a ∧ H' a = some o) (st : ∀ a o, H a = some o → ¬ Lv (some o) → H' a = some o)
    (hr : ∀ i t a, ρ i = some a → r i = some t → Rep N L' ρ' H' t (.ref a)) : ∀ {ts ts' : List T} {vs : List V}, frzWs r ts = some ts' → Reps N L ρ H ts vs → Reps N L' ρ' H' ts' vs
  | [], _, _, e, h => by cases e; exact h
  | t :: ts, us, _, e, ⟨y, zs, e1, q, q2⟩ => by
    have e : (match frzW r t, frzWs r ts with
      | some y, some ys => some (y :: ys)
      | _, _ => none) = some us := e
    cases w1 : frzW r t with
    | none => rw [w1] at e; cases e
    | some t' =>
      cases w2 : frzWs r ts with
      | none => rw [w1, w2] at e; cases e
      | some ts' =>
        rw [w1, w2] at e; cases e
        exact ⟨y, zs, e1, frz_rep fz st hr w1 q, frzs_rep fz st hr w2 q2⟩
end
/-- the rests of a run -/
structure Rst (n0 : Nat) (L : Al) (ρ : Ro) (H : Hp) (L' : Al) (ρ' : Ro) : Prop where
  old : ∀ i a, i < n0 → ρ i = some a → ρ' i = some a
  fz : ∀ a o, H a = some o → Fz L ρ a → Fz L' ρ' a
  new : ∀ i a, n0 ≤ i → ρ i = some a → Fz L' ρ' a
theorem Rst.r0 {n0 : Nat} (R : Rst n0 L ρ H L' ρ') : ∀ i t a, ρ i = some a → Mt.r0 n0 i = some t → Rep N L' ρ' H t (.ref a) := fun i t a e q => by
  unfold Mt.r0 at q
  split at q
  · cases q; exact ⟨a, rfl, R.old i a (by assumption) e⟩
  · cases q
theorem Rst.up {n0 : Nat} (S : StoOk N L ρ H h) (R : Rst n0 L ρ H L' ρ') {r : Nat → Option T} (hr : ∀ i t a, ρ i = some a → r i = some t → Rep N L' ρ' H t (.ref a)) :
    ∀ i t a, ρ i = some a → rUp n0 h r i = some t → Rep N L' ρ' H t (.ref a) := fun i t a e q => by
  unfold rUp at q
  split at q
  · cases q; exact ⟨a, rfl, R.old i a (by assumption) e⟩
  · rename_i hi
    have fa := R.new i a (Nat.le_of_not_lt hi) e
    cases w : h[i]? with
    | none => rw [w] at q; cases q
    | some o =>
      rw [w] at q
      obtain ⟨b, e2, ro⟩ := S.obj i o w
      rw [e] at e2; cases e2
      cases o with
      | lst xs =>
        have q : (frzWs r xs).map T.lst = some t := q
        cases w2 : frzWs r xs with
        | none => rw [w2] at q; cases q
        | some xs' =>
          rw [w2] at q; cases q
          obtain ⟨ys, hl, rr⟩ := ro
          exact ⟨a, ys, rfl, fa, hl, frzs_rep (fun a o h1 f => ⟨R.fz a o h1 f, h1⟩) (fun _ _ h1 _ => h1) hr w2 rr⟩
      | dic ks vs =>
        have q : (frzWs r vs).map (T.dic ks) = some t := q
        cases w2 : frzWs r vs with
        | none => rw [w2] at q; cases q
        | some xs' =>
          rw [w2] at q; cases q
          obtain ⟨ys, hl, rr⟩ := ro
          exact ⟨a, ys, rfl, fa, hl, frzs_rep (fun a o h1 f => ⟨R.fz a o h1 f, h1⟩) (fun _ _ h1 _ => h1) hr w2 rr⟩
      | ins c fs vs => cases q
theorem Rst.frz {n0 : Nat} (S : StoOk N L ρ H h) (R : Rst n0 L ρ H L' ρ') {t t' : T} {v : V} (e : Mt.frz n0 h t = some t') (r : Rep N L ρ H t v) : Rep N L' ρ' H t' v :=
  frz_rep (fun a o h1 f => ⟨R.fz a o h1 f, h1⟩) (fun _ _ h1 _ => h1) (R.up S (R.up S R.r0)) e r
theorem Rst.frzX {n0 : Nat} (S : StoOk N L ρ H h) (R : Rst n0 L ρ H L' ρ') {t t' : T} {c : Value} {d : Option Addr} (e : Mt.frz n0 h t = some t') (r : RepX N L ρ H t c d) : RepX N L' ρ' H t' c d := by
  obtain ⟨c0, fs, vs, ys, rfl, rfl, rr, q⟩ := r
  have e : (frzWs _ vs).map (T.obj c0 fs) = some t' := e
  cases w : frzWs (rUp n0 h (rUp n0 h (Mt.r0 n0))) vs with
  | none => rw [w] at e; cases e
  | some vs' =>
    rw [w] at e; cases e
    exact ⟨c0, fs, vs', ys, rfl, rfl, frzs_rep (fun a o h1 f => ⟨R.fz a o h1 f, h1⟩) (fun _ _ h1 _ => h1) (R.up S (R.up S R.r0)) w rr, q⟩
mutual
theorem r0_same {n0 : Nat} : ∀ {t t' : T}, frzW (Mt.r0 n0) t = some t' → t' = t
  | .non, _, e => by cases e; rfl
  | .bl _, _, e => by cases e; rfl
  | .int _, _, e => by cases e; rfl
  | .str _, _, e => by cases e; rfl
  | .byt _, _, e => by cases e; rfl
  | .scr _, _, e => by cases e; rfl
  | .ref n, t', e => by
    have e : (if n < n0 then some (T.ref n) else none) = some t' := e
    split at e
    · cases e; rfl
    · cases e
  | .tup xs, t', e => by
    have e : (frzWs (Mt.r0 n0) xs).map T.tup = some t' := e
    cases w : frzWs (Mt.r0 n0) xs with
    | none => rw [w] at e; cases e
    | some xs' => rw [w] at e; cases e; rw [r0_sames w]
  | .lst xs, t', e => by
    have e : (frzWs (Mt.r0 n0) xs).map T.lst = some t' := e
    cases w : frzWs (Mt.r0 n0) xs with
    | none => rw [w] at e; cases e
    | some xs' => rw [w] at e; cases e; rw [r0_sames w]
  | .dic ks vs, t', e => by
    have e : (frzWs (Mt.r0 n0) vs).map (T.dic ks) = some t' := e
    cases w : frzWs (Mt.r0 n0) vs with
    | none => rw [w] at e; cases e
    | some xs' => rw [w] at e; cases e; rw [r0_sames w]
  | .obj c fs vs, t', e => by
    have e : (frzWs (Mt.r0 n0) vs).map (T.obj c fs) = some t' := e
    cases w : frzWs (Mt.r0 n0) vs with
    | none => rw [w] at e; cases e
    | some xs' => rw [w] at e; cases e; rw [r0_sames w]
theorem r0_sames {n0 : Nat} : ∀ {ts ts' : List T}, frzWs (Mt.r0 n0) ts = some ts' → ts' = ts
  | [], _, e => by cases e; rfl
  | t :: ts, us, e => by
    have e : (match frzW (Mt.r0 n0) t, frzWs (Mt.r0 n0) ts with
      | some y, some ys => some (y :: ys)
      | _, _ => none) = some us := e
    cases w1 : frzW (Mt.r0 n0) t with
    | none => rw [w1] at e; cases e
    | some t' =>
      cases w2 : frzWs (Mt.r0 n0) ts with
      | none => rw [w1, w2] at e; cases e
      | some ts' =>
        rw [w1, w2] at e; cases e
        rw [r0_same w1, r0_sames w2]
end
theorem clo_reps {n0 : Nat} {ts : List T} {vs : List V} (c : (frzWs (Mt.r0 n0) ts).isSome = true) (fz : ∀ a o, H a = some o → Fz L ρ a → Fz L' ρ' a) (old : ∀ i a, i < n0 → ρ i = some a → ρ' i = some a) (r : Reps N L ρ H ts vs) : Reps N L' ρ' H ts vs := by
  obtain ⟨ts', w⟩ := Option.isSome_iff_exists.mp c
  have := frzs_rep (N := N) (L := L) (L' := L') (ρ := ρ) (ρ' := ρ') (H := H) (H' := H) (fun a o h1 f => ⟨fz a o h1 f, h1⟩) (fun _ _ h1 _ => h1) (fun i t a e q => by
    unfold Mt.r0 at q
    split at q
    · cases q; exact ⟨a, rfl, old i a (by assumption) e⟩
    · cases q) w r
  rwa [r0_sames w] at this
theorem clo_repO {n0 : Nat} {a : Addr} {o : O} (c : cloO n0 o = true) (fz : ∀ a o, H a = some o → Fz L ρ a → Fz L' ρ' a) (old : ∀ i a, i < n0 → ρ i = some a → ρ' i = some a) (r : RepO N L ρ H a o) : RepO N L' ρ' H a o := by
  cases o with
  | lst xs => obtain ⟨ys, e, q⟩ := r; exact ⟨ys, e, clo_reps c fz old q⟩
  | dic ks vs => obtain ⟨ys, e, q⟩ := r; exact ⟨ys, e, clo_reps c fz old q⟩
  | ins k fs vs => obtain ⟨ys, e, q⟩ := r; exact ⟨ys, e, clo_reps c fz old q⟩
/-! ### entry and exit -/
abbrev ρ0 : Ro := fun _ => none
/-- all that stands in the store is locked -/
abbrev allL (L : Al) (ρ : Ro) : Al := fun a => L a ∨ ∃ i, ρ i = some a
theorem enter0 (S : StoOk N L ρ H h) : StoOk N (allL L ρ) ρ0 H [] where
  inj := fun _ _ _ e _ => nomatch e
  dom := fun _ _ e => nomatch e
  obj := fun i o e => nomatch e
  out := fun a l => ⟨by
    rcases l with l | ⟨i, e⟩
    · exact (S.out a l).1
    · intro z
      have := S.liv i a e
      rw [z] at this
      exact this, fun i e => nomatch e⟩
theorem enter0_reps {as : List T} {vs : List V} (c : (frzWs (Mt.r0 0) as).isSome = true) (r : Reps N L ρ H as vs) : Reps N (allL L ρ) ρ0 H as vs :=
  clo_reps c (fun a o e f => ⟨fun z => z.elim f.1 fun ⟨i, q⟩ => f.2 i q, fun i q => nomatch q⟩) (fun i a hi e => absurd hi (Nat.not_lt_zero _)) r
/-- the caller's store behind a run that left it alone -/
theorem leave0 (S : StoOk N L ρ H h) (st : Stp ρ0 H ρ' H') : Stp ρ H ρ H' ∧ StoOk N L ρ H' h := by
  have k : ∀ a o, H a = some o → H' a = some o := fun a o e => st.keep a o e fun i q => nomatch q
  have M : Mv N L ρ H L ρ H' := ⟨fun a o _ f => f, fun a o e _ => k a o e, fun a o e _ => k a o e, fun _ _ e => e⟩
  refine ⟨⟨S.liv, fun a o e _ => k a o e, fun _ _ e => .inl e, fun _ _ e => e⟩, S.inj, S.dom, fun i o e => ?_, fun a l => ⟨fun z => ?_, (S.out a l).2⟩⟩
  · obtain ⟨a, e1, r⟩ := S.obj i o e
    exact ⟨a, e1, r.mv M fun u e => k a u e⟩
  · cases w : H a with
    | none => exact (S.out a l).1 w
    | some o => rw [k a o w] at z; cases z
theorem rst0 {h' : Sto} (S' : StoOk N (allL L ρ) ρ' H' h') : Rst 0 (allL L ρ) ρ' H' L ρ :=
  ⟨fun i a hi _ => absurd hi (Nat.not_lt_zero _), fun a o _ f => ⟨fun z => f.1 (.inl z), fun i q => f.1 (.inr ⟨i, q⟩)⟩, fun i a _ e =>
    ⟨fun z => (S'.out a (.inl z)).2 i e, fun j q => (S'.out a (.inr ⟨j, q⟩)).2 i e⟩⟩
/-- the store's older part -/
abbrev ρlt (n0 : Nat) (ρ : Ro) : Ro := fun i => if i < n0 then ρ i else none
theorem ρlt_some {n0 i : Nat} {a : Addr} (e : ρlt n0 ρ i = some a) : i < n0 ∧ ρ i = some a := by
  unfold ρlt at e
  split at e
  · exact ⟨by assumption, e⟩
  · cases e
theorem rstN {n0 : Nat} (S : StoOk N L ρ H h) : Rst n0 L ρ H L (ρlt n0 ρ) :=
  ⟨fun i a hi e => by unfold ρlt; rw [if_pos hi]; exact e, fun a o _ f => ⟨f.1, fun i q => f.2 i (ρlt_some q).2⟩, fun i a hi e => ⟨fun l => (S.out a l).2 i e, fun j q => by
    have := ρlt_some q
    have := S.inj i j a e this.2
    omega⟩⟩
theorem leaveN {h' : Sto} (S : StoOk N L ρ H h) (st : Stp ρ H ρ' H') (S' : StoOk N L ρ' H' h') (c : (h'.take h.length).all (cloO h.length) = true) : Stp ρ H (ρlt h.length ρ') H' ∧ StoOk N L (ρlt h.length ρ') H' (h'.take h.length) := by
  refine ⟨⟨S.liv, st.keep, fun i a e => st.old i a (ρlt_some e).2, fun i a e => ?_⟩, fun i j a e1 e2 => S'.inj i j a (ρlt_some e1).2 (ρlt_some e2).2, fun i a e => ?_, fun i o e => ?_, fun a l => ⟨(S'.out a l).1, fun i e => (S'.out a l).2 i (ρlt_some e).2⟩⟩
  · unfold ρlt
    rw [if_pos (S.dom i a e)]
    exact st.ref i a e
  · have := S'.dom i a (ρlt_some e).2
    have := (ρlt_some e).1
    rw [List.length_take]
    omega
  · have hi : i < h.length := by
      have := (List.getElem?_eq_some_iff.mp e).1
      rw [List.length_take] at this
      omega
    rw [List.getElem?_take_of_lt hi] at e
    obtain ⟨a, e1, r⟩ := S'.obj i o e
    refine ⟨a, by unfold ρlt; rw [if_pos hi]; exact e1, clo_repO ?_ (rstN S').fz (rstN S').old r⟩
    have hm : o ∈ h'.take h.length := List.mem_of_getElem? (i := i) (by rw [List.getElem?_take_of_lt hi]; exact e)
    exact List.all_eq_true.mp c o hm
end
end Mt

set_option maxHeartbeats 8000000
/-! Mt13: defs and their calls. -/
namespace L2
open PySem PySem.Spec PyProof.Rows
/-- a def keeps its promise (what it may let out: L2N.CX), no guard is up -/
structure FnG (P : Program) (w : World) (K : PySem.W.Frag) (mg : Str → Option Value) (base : Heap) (k : Nat) (f : Addr) (fd : FuncData) (ps : List Str) (sp : Sp) : Prop where
  len : ∀ vs H Q E, sp vs H Q E → vs.length = ps.length
  run : ∀ (A : Around) (outer : List Env) (s : Shared) (H : Hp) (args : Args) (us : List Value) (vs : List V) (Q : VK) (E : XK), Room k A → A.guards = some [] → Env0 P w K mg base A outer s H → BindsTo s fd args (ps.zip us) → Vals vs us → sp vs H Q E →
    codeAny (model P w) A (.call (.ref f) args) (CR (L2N.CX P w) outer P w H s Q E) s
theorem fn_ofG {P : Program} {w : World} {K : PySem.W.Frag} {mg : Str → Option Value} {base : Heap} {k : Nat} {f : Addr} {name qual : Str} {params : Arguments} {body : List Stmt} {scope : Scope} {dV kV doc pm cdv ct oc : Value} {an od : Option Addr}
    {osl : Array (Option Value)} {N ps : List Str} {sp : Sp} (lk : K.lookup f = some ⟨oc, od, .func (PySem.W.fnOf name qual params body scope dV kV doc pm an cdv ct), osl⟩) (hcd : PySem.W.codeIn K cdv qual = true) (S : FnScope N ps scope)
    (len : ∀ vs H Q E, sp vs H Q E → vs.length = ps.length)
    (hbody : ∀ (A : Around) (outer : List Env) (s : Shared) (H : Hp) (vs : List V) (Q : VK) (E : XK), Room k (A.deeper (envOfC qual scope s.heap.objs.size f cdv)) → A.guards = some [] → sp vs H Q E →
      ∃ t, PSs (cxOf (L2N.CX P w) P w K mg base N qual scope f cdv A outer s H E) body t ∧ t { nx := fun _ H' => Q .non H', rt := Q } (start N vs) H) :
    FnG P w K mg base (k + 1) f (PySem.W.fnOf name qual params body scope dV kV doc pm an cdv ct) ps sp := by
  refine ⟨len, fun A outer s H args us vs Q E hr hgd e0 hb r hsp => ?_⟩
  have hl := len _ _ _ _ hsp
  have KX : K.In s.heap := e0.mod.kin.keeps fun b o e => (e0.bs b o e).1
  have lim : s.heap.NoLimit := e0.mod.nolimit.keeps fun b o e => (e0.bs b o e).1
  have hkind : ∀ y ∈ ps.zip us, scope.names.lookup y.1 = some .local ∨ (scope.names.lookup y.1 = some .cell ∧ ((cellsFrom (s.heap.objs.size + 1) scope.names []).lookup y.1).isSome = true) := fun ⟨n, v⟩ hy => by
    rcases S.par n (List.of_mem_zip hy).1 with q | q
    · exact .inl q
    · exact .inr ⟨q, PySem.W.cellsFrom_some _ _ _ (.inl q)⟩
  refine codeAny_call_function hr.depth (KX _ _ lk) rfl S.co S.gen rfl (PySem.W.codeRec_of KX hcd) (hb _ _ _ _ ?_)
  refine wpAny_newFunctionEnv_cells S.kind hkind fun env he s1 x => ?_
  subst he
  refine ⟨lim.keeps x.toInCall.keep, codeAny_func ?_⟩
  obtain ⟨t, ht, hq⟩ := hbody A outer s H vs Q E (hr.deeper _) hgd hsp
  have I : Inv (cxOf (L2N.CX P w) P w K mg base N qual scope f cdv A outer s H E) [] (start N vs) H s1 := inv_start S hr.hd e0 hl r x
  refine wpAny_mono (ht.run [] s1 (start N vs) H _ I hq) (fun fl s' hs => ?_) fun e s' hs => hs
  have fin : ∀ {σ' : St} {H' : Hp} {v : V} {u : Value}, Inv (cxOf (L2N.CX P w) P w K mg base N qual scope f cdv A outer s H E) [] σ' H' s' → RelV v u → Q v H' → CE outer P w H s Q u s' :=
    fun {σ' H' v u} J rv q => ⟨v, H', J.os, J.bare, J.base, J.hok, rv, q⟩
  cases fl with
  | ret u =>
    obtain ⟨v, σ', H', J, rv, q⟩ := hs
    exact fin J rv q
  | next =>
    obtain ⟨σ', H', J, q⟩ := hs
    exact fin (v := V.non) (u := Value.none) J rfl q
  | brk =>
    obtain ⟨_, _, _, q⟩ := hs
    exact False.elim q
  | cont =>
    obtain ⟨_, _, _, q⟩ := hs
    exact False.elim q
section
variable {X : Cx} {k n : Nat} {f C : Addr} {fd : FuncData} {ps ks : List Str} {sp : Sp} {x m : Str} {p pos apos : Pos} {e o : Expr} {es : List Expr} {kws : List Keyword} {ta : TE} {t tk : TA} {g : List Value → List Value → List Value} {gV : List V → List V → List V} {E : St → XK}
theorem run_fnG {pins : List (Addr × Obj)} {σ : St} {H : Hp} {s : Shared} {Q : VK} {us ws : List Value} {vs zs : List V} (F : FnG X.prog X.w X.K X.mg X.base k f fd ps sp) (hr : Room k X.A) (hgd : X.A.guards = some []) (hb : KBn X.K fd ps n ks g gV) (hx : PassesAt (L2N.CX X.prog X.w) X σ (E σ))
    (I : Inv X pins σ H s) (r : Vals vs us) (rz : Vals zs ws) (l1 : vs.length = n) (l2 : zs.length = ks.length) (h : sp (gV vs zs) H Q (E σ)) : wpAny (model X.prog X.w) X.A (call (.ref f) us (ks.zip ws)) (EP X pins σ Q) X.xe s := by
  have r2 := hb.rel r rz
  refine wpAny_call (codeAny_mono (F.run X.A X.stack s H ⟨us, ks.zip ws⟩ (g us ws) (gV vs zs) Q (E σ) hr hgd I.env0 (hb.to s us ws I.kIn (r.length.symm.trans l1) (rz.length.symm.trans l2)) r2 h) fun r s' hq => ?_)
  cases r with
  | error e => exact hx pins H s e s' I hq
  | ok fl =>
    cases fl with
    | ret u => exact I.after hq
    | next => exact False.elim hq
    | brk => exact False.elim hq
    | cont => exact False.elim hq
/-- f(.., k = v, ..) -/
theorem pe_callG (hg : Gl X x) (hm : X.mg x = some (.ref f)) (hk : PySem.W.keepIn X.K (.ref f) = true) (F : FnG X.prog X.w X.K X.mg X.base k f fd ps sp) (hr : Room k X.A) (hgd : X.A.guards = some []) (hx : ∀ σ, PassesAt (L2N.CX X.prog X.w) X σ (E σ))
    (ha : PA X (e :: es) t) (hkw : PK X kws tk) (hall : (backToKw pos (keywordEach kws X.env)).all (·.1.isSome) = true) (hks : (backToKw pos (keywordEach kws X.env)).filterMap (·.1) = ks)
    (hdb : (x == ("__debug__" : Str)) = false) (he : starEach (e :: es) X.env = (false, eval e X.env) :: starEach es X.env)
    (hpl : ((backTo pos (starEach (e :: es) X.env)).any (·.1) || (backToKw pos (keywordEach kws X.env)).any (·.1.isNone)) = false) :
    PE X (.Call (.Name x p) (e :: es) kws pos) (fun σ H Q => t σ H fun vs H1 => tk σ H1 fun zs H2 => vs.length = n ∧ zs.length = ks.length ∧ ∃ g gV, KBn X.K fd ps n ks g gV ∧ sp (gV vs zs) H2 Q (E σ)) := by
  refine ⟨fun pins s σ H Q I h => ?_⟩
  refine wpAny_Call_Name_kw (ld_glob I hg hm ?_ hdb)
  refine PySem.W.callWith_KW (h₀ := X.base) I.ok.mod.kin hk hall (thn (ha.run pos pins s σ H _ I h) fun us s1 ⟨vs, H1, I1, r, q⟩ => ?_) hpl he
  refine thn (hkw.run pos pins s1 σ H1 _ I1 q) fun ws s2 ⟨zs, H2, I2, rz, l1, l2, g, gV, hb, q2⟩ => ⟨I2.kIn, ?_⟩
  rw [hks]
  exact run_fnG F hr hgd hb (hx σ) I2 r rz l1 l2 q2
theorem pe_callG0 (hg : Gl X x) (hm : X.mg x = some (.ref f)) (hk : PySem.W.keepIn X.K (.ref f) = true) (F : FnG X.prog X.w X.K X.mg X.base k f fd ps sp) (hr : Room k X.A) (hgd : X.A.guards = some []) (hx : ∀ σ, PassesAt (L2N.CX X.prog X.w) X σ (E σ))
    (hkw : PK X kws tk) (hall : (backToKw pos (keywordEach kws X.env)).all (·.1.isSome) = true) (hks : (backToKw pos (keywordEach kws X.env)).filterMap (·.1) = ks)
    (hdb : (x == ("__debug__" : Str)) = false) (hpl : ((backTo pos (starEach [] X.env)).any (·.1) || (backToKw pos (keywordEach kws X.env)).any (·.1.isNone)) = false) :
    PE X (.Call (.Name x p) [] kws pos) (fun σ H Q => tk σ H fun zs H2 => zs.length = ks.length ∧ ∃ g gV, KBn X.K fd ps 0 ks g gV ∧ sp (gV [] zs) H2 Q (E σ)) := by
  refine ⟨fun pins s σ H Q I h => ?_⟩
  refine wpAny_Call_Name_kw (ld_glob I hg hm ?_ hdb)
  refine PySem.W.callWith_KW0 (h₀ := X.base) I.ok.mod.kin hk hall ?_ hpl
  refine thn (hkw.run pos pins s σ H _ I h) fun ws s2 ⟨zs, H2, I2, rz, l2, g, gV, hb, q2⟩ => ⟨I2.kIn, ?_⟩
  rw [hks]
  exact run_fnG F hr hgd hb (hx σ) I2 (us := []) (vs := []) .nil rz rfl l2 q2
theorem make_guards {A : Around} {C : Addr} {us : List Value} {kw : List (Str × Value)} : (A.under (.builtin "type.__call__" ⟨.ref C :: us, kw⟩)).guards = A.guards := by
  first | rfl | simp [Around.under, Code.weight, Code.isCreation, Code.isGuard, Code.isCaller, Code.frames, Code.isFrame, guardIds]
theorem run_makeG {pins : List (Addr × Obj)} {σ : St} {H : Hp} {s : Shared} {Q : VK} {us ws : List Value} {vs zs : List V} (M : Mk X.K C f) (F : FnG X.prog X.w X.K X.mg X.base k f fd ps sp) (hr : Room (k + 1) X.A) (hgd : X.A.guards = some []) (hb : KBn X.K fd ps (n + 1) ks g gV) (hx : PassesAt (L2N.CX X.prog X.w) X σ (E σ))
    (I : Inv X pins σ H s) (r : Vals vs us) (rz : Vals zs ws) (l1 : vs.length = n) (l2 : zs.length = ks.length)
    (h : ∀ x dx, H x = none → H dx = none → dx ≠ x → sp (gV (.ref x :: vs) zs) (upd (upd H dx (.own x)) x (.ins C dx [])) (fun v H2 => v = .non ∧ Q (.ref x) H2) (E σ)) :
    wpAny (model X.prog X.w) X.A (call (.ref C) us (ks.zip ws)) (EP X pins σ Q) X.xe s := by
  have hq := h (s.heap.objs.size + 1) s.heap.objs.size (I.hok.fresh (Nat.le_succ _)) (I.hok.fresh (Nat.le_refl _)) (Nat.ne_of_lt (Nat.lt_succ_self _))
  have I2 := Inv.made (C := C) I
  have r1 : Vals (V.ref (s.heap.objs.size + 1) :: vs) (Value.ref (s.heap.objs.size + 1) :: us) := .cons rfl r
  have r2 := hb.rel r1 rz
  have n1 : (Value.ref (s.heap.objs.size + 1) :: us).length = n + 1 := by
    rw [List.length_cons, ← r.length, l1]
  refine wpAny_call (make_map (f := f) I.kIn M.makes M.init (beq_iff_eq.mp M.fn) (codeAny_mono (F.run _ X.stack _ _ ⟨Value.ref (s.heap.objs.size + 1) :: us, ks.zip ws⟩ (g (Value.ref (s.heap.objs.size + 1) :: us) ws) _ _ (E σ) (hr.make C us (ks.zip ws))
    (make_guards.trans hgd) (I2.env0.make C us (ks.zip ws)) (hb.to _ (Value.ref (s.heap.objs.size + 1) :: us) ws I2.kIn n1 (rz.length.symm.trans l2)) r2 hq) fun r s' hq' => ?_))
  cases r with
  | error e => exact hx pins _ _ e s' I2 hq'
  | ok fl =>
    cases fl with
    | ret u =>
      obtain ⟨v, H', I3, rv, ev, q3⟩ := I2.after hq'
      subst ev
      exact ⟨rv, ⟨V.ref (s.heap.objs.size + 1), H', I3, rfl, q3⟩⟩
    | next => exact False.elim hq'
    | brk => exact False.elim hq'
    | cont => exact False.elim hq'
/-- C(.., k = v, ..) -/
theorem pe_makeG (M : Mk X.K C f) (hg : Gl X x) (hm : X.mg x = some (.ref C)) (F : FnG X.prog X.w X.K X.mg X.base k f fd ps sp) (hr : Room (k + 1) X.A) (hgd : X.A.guards = some []) (hx : ∀ σ, PassesAt (L2N.CX X.prog X.w) X σ (E σ))
    (ha : PA X (e :: es) t) (hkw : PK X kws tk) (hall : (backToKw pos (keywordEach kws X.env)).all (·.1.isSome) = true) (hks : (backToKw pos (keywordEach kws X.env)).filterMap (·.1) = ks)
    (hdb : (x == ("__debug__" : Str)) = false) (he : starEach (e :: es) X.env = (false, eval e X.env) :: starEach es X.env)
    (hpl : ((backTo pos (starEach (e :: es) X.env)).any (·.1) || (backToKw pos (keywordEach kws X.env)).any (·.1.isNone)) = false) :
    PE X (.Call (.Name x p) (e :: es) kws pos) (fun σ H Q => t σ H fun vs H1 => tk σ H1 fun zs H2 => vs.length = n ∧ zs.length = ks.length ∧ ∃ g gV, KBn X.K fd ps (n + 1) ks g gV ∧
      ∀ x dx, H2 x = none → H2 dx = none → dx ≠ x → sp (gV (.ref x :: vs) zs) (upd (upd H2 dx (.own x)) x (.ins C dx [])) (fun v H3 => v = .non ∧ Q (.ref x) H3) (E σ)) := by
  refine ⟨fun pins s σ H Q I h => ?_⟩
  refine wpAny_Call_Name_kw (ld_glob I hg hm ?_ hdb)
  refine PySem.W.callWith_KW (h₀ := X.base) I.ok.mod.kin M.kp hall (thn (ha.run pos pins s σ H _ I h) fun us s1 ⟨vs, H1, I1, r, q⟩ => ?_) hpl he
  refine thn (hkw.run pos pins s1 σ H1 _ I1 q) fun ws s2 ⟨zs, H2, I2, rz, l1, l2, g, gV, hb, q2⟩ => ⟨I2.kIn, ?_⟩
  rw [hks]
  exact run_makeG M F hr hgd hb (hx σ) I2 r rz l1 l2 q2
theorem pe_makeG0 (M : Mk X.K C f) (hg : Gl X x) (hm : X.mg x = some (.ref C)) (F : FnG X.prog X.w X.K X.mg X.base k f fd ps sp) (hr : Room (k + 1) X.A) (hgd : X.A.guards = some []) (hx : ∀ σ, PassesAt (L2N.CX X.prog X.w) X σ (E σ))
    (hkw : PK X kws tk) (hall : (backToKw pos (keywordEach kws X.env)).all (·.1.isSome) = true) (hks : (backToKw pos (keywordEach kws X.env)).filterMap (·.1) = ks)
    (hdb : (x == ("__debug__" : Str)) = false) (hpl : ((backTo pos (starEach [] X.env)).any (·.1) || (backToKw pos (keywordEach kws X.env)).any (·.1.isNone)) = false) :
    PE X (.Call (.Name x p) [] kws pos) (fun σ H Q => tk σ H fun zs H2 => zs.length = ks.length ∧ ∃ g gV, KBn X.K fd ps 1 ks g gV ∧
      ∀ x dx, H2 x = none → H2 dx = none → dx ≠ x → sp (gV [.ref x] zs) (upd (upd H2 dx (.own x)) x (.ins C dx [])) (fun v H3 => v = .non ∧ Q (.ref x) H3) (E σ)) := by
  refine ⟨fun pins s σ H Q I h => ?_⟩
  refine wpAny_Call_Name_kw (ld_glob I hg hm ?_ hdb)
  refine PySem.W.callWith_KW0 (h₀ := X.base) I.ok.mod.kin M.kp hall ?_ hpl
  refine thn (hkw.run pos pins s σ H _ I h) fun ws s2 ⟨zs, H2, I2, rz, l2, g, gV, hb, q2⟩ => ⟨I2.kIn, ?_⟩
  rw [hks]
  exact run_makeG (us := []) (vs := []) M F hr hgd hb (hx σ) I2 .nil rz rfl l2 q2
/-- what a method's call needs, by the receiver: its class, its def, its binding -/
def MtdG (X : Cx) (m : Str) (n : Nat) (ks : List Str) (E : St → XK) (σ : St) (a C : Addr) (vs zs : List V) (H : Hp) (Q : VK) : Prop :=
  ∃ (k : Nat) (f : Addr) (fd : FuncData) (ps : List Str) (sp : Sp) (g : List Value → List Value → List Value) (gV : List V → List V → List V), FnG X.prog X.w X.K X.mg X.base k f fd ps sp ∧ Meth X.K C m f ∧ Room k X.A ∧ KBn X.K fd ps (n + 1) ks g gV ∧ sp (gV (.ref a :: vs) zs) H Q (E σ)
/-- o.m(.., k = v, ..) -/
theorem pe_methG {pl : Sem Bool} (ho : PE X o ta) (hgd : X.A.guards = some []) (hx : ∀ σ, PassesAt (L2N.CX X.prog X.w) X σ (E σ))
    (ha : PA X (e :: es) t) (hkw : PK X kws tk) (hall : (backToKw pos (keywordEach kws X.env)).all (·.1.isSome) = true) (hks : (backToKw pos (keywordEach kws X.env)).filterMap (·.1) = ks)
    (he : starEach (e :: es) X.env = (false, eval e X.env) :: starEach es X.env)
    (hpl : ((backTo pos (starEach (e :: es) X.env)).any (·.1) || (backToKw pos (keywordEach kws X.env)).any (·.1.isNone)) = false)
    (ht : eval (.Call (.Attribute o m apos) (e :: es) kws pos) X.env = (do
      let ov ← eval o X.env
      standAt apos.atName
      let (f, first) ← holding [ov] (getMethod ov m pl)
      callWith pos f first (backTo pos (starEach (e :: es) X.env)) (backToKw pos (keywordEach kws X.env)))) :
    PE X (.Call (.Attribute o m apos) (e :: es) kws pos) (fun σ H Q => ta σ H fun x H1 => ∃ a C dx fs f, x = .ref a ∧ H1 a = some (.ins C dx fs) ∧ fs.lookup m = none ∧ Cls X.K C ∧ Meth X.K C m f ∧
      t σ H1 fun vs H2 => tk σ H2 fun zs H3 => vs.length = n ∧ zs.length = ks.length ∧ MtdG X m n ks E σ a C vs zs H3 Q) := by
  refine ⟨fun pins s σ H Q I h => ?_⟩
  refine PySem.W.methodCall_KW (pl := pl) (thn (ho.run pins s σ H _ I h) fun u s1 ⟨x, H1, I1, rx, a, C, dx, fs, f, ex, ea, l, c, hm, q⟩ => ?_) ht
  subst ex
  obtain rfl : u = Value.ref a := rx
  refine getmeth_ok I1 ea c hm l ?_
  refine PySem.W.callWith_KW (first := [.ref a]) (h₀ := X.base) I1.ok.mod.kin hm.kp hall (thn (ha.run pos pins s1 σ H1 _ I1 q) fun us s2 ⟨vs, H2, I2, r, q2⟩ => ?_) hpl he
  refine thn (hkw.run pos pins s2 σ H2 _ I2 q2) fun ws s3 ⟨zs, H3, I3, rz, l1, l2, k, f', fd, ps, sp, g, gV, F, hm', hr, hb, q3⟩ => ⟨I3.kIn, ?_⟩
  have ef : f = f' := by
    have e1 := hm.at_
    rw [hm'.at_] at e1
    cases e1
    rfl
  subst ef
  rw [hks]
  exact run_fnG (us := .ref a :: us) (vs := .ref a :: vs) F hr hgd hb (hx σ) I3 (.cons rfl r) rz (congrArg Nat.succ l1) l2 q3
theorem pe_methG0 {pl : Sem Bool} (ho : PE X o ta) (hgd : X.A.guards = some []) (hx : ∀ σ, PassesAt (L2N.CX X.prog X.w) X σ (E σ))
    (hkw : PK X kws tk) (hall : (backToKw pos (keywordEach kws X.env)).all (·.1.isSome) = true) (hks : (backToKw pos (keywordEach kws X.env)).filterMap (·.1) = ks)
    (hpl : ((backTo pos (starEach [] X.env)).any (·.1) || (backToKw pos (keywordEach kws X.env)).any (·.1.isNone)) = false)
    (ht : eval (.Call (.Attribute o m apos) [] kws pos) X.env = (do
      let ov ← eval o X.env
      standAt apos.atName
      let (f, first) ← holding [ov] (getMethod ov m pl)
      callWith pos f first (backTo pos (starEach [] X.env)) (backToKw pos (keywordEach kws X.env)))) :
    PE X (.Call (.Attribute o m apos) [] kws pos) (fun σ H Q => ta σ H fun x H1 => ∃ a C dx fs f, x = .ref a ∧ H1 a = some (.ins C dx fs) ∧ fs.lookup m = none ∧ Cls X.K C ∧ Meth X.K C m f ∧
      tk σ H1 fun zs H3 => zs.length = ks.length ∧ MtdG X m 0 ks E σ a C [] zs H3 Q) := by
  refine ⟨fun pins s σ H Q I h => ?_⟩
  refine PySem.W.methodCall_KW (pl := pl) (thn (ho.run pins s σ H _ I h) fun u s1 ⟨x, H1, I1, rx, a, C, dx, fs, f, ex, ea, l, c, hm, q⟩ => ?_) ht
  subst ex
  obtain rfl : u = Value.ref a := rx
  refine getmeth_ok I1 ea c hm l ?_
  refine PySem.W.callWith_KW0 (first := [.ref a]) (h₀ := X.base) I1.ok.mod.kin hm.kp hall ?_ hpl
  refine thn (hkw.run pos pins s1 σ H1 _ I1 q) fun ws s3 ⟨zs, H3, I3, rz, l2, k, f', fd, ps, sp, g, gV, F, hm', hr, hb, q3⟩ => ⟨I3.kIn, ?_⟩
  have ef : f = f' := by
    have e1 := hm.at_
    rw [hm'.at_] at e1
    cases e1
    rfl
  subst ef
  rw [hks]
  exact run_fnG (us := [.ref a]) (vs := [.ref a]) F hr hgd hb (hx σ) I3 (.cons rfl .nil) rz rfl l2 q3
end
end L2

set_option maxHeartbeats 8000000
/-! Mt14: calls, by their meaning. -/
namespace Mt
open PySem PySem.Spec PyProof.Rows L2

def tv : T → V
  | .bl b => .bl b
  | .int i => .int i
  | .str x => .str x
  | _ => .non
def plV (pl : List (Nat ⊕ T)) (vs : List V) : List V := pl.map fun
  | .inl i => vs.getD i .non
  | .inr t => tv t
/-- a program's defs, as they lie -/
structure Pd (F : Type) where
  P : Prog F
  adr : F → Addr
  fd : F → FuncData
  ps : F → List Str
  kwn : Nat → Str
  mnm : Nat → Str
structure PdOk {F : Type} (N : Nm) (D : Pd F) : Prop where
  ar : ∀ f, (D.P.fn f).arity = (D.ps f).length
  kp : ∀ f, PySem.W.keepIn N.K (.ref (D.adr f)) = true
  b0 : ∀ f, ∃ g, KBn N.K (D.fd f) (D.ps f) (D.ps f).length [] g (fun vs _ => vs)
  b1 : ∀ f n ks pl, D.P.plan f n ks = some pl → ∃ g, KBn N.K (D.fd f) (D.ps f) n (ks.map D.kwn) g (fun vs zs => plV pl (vs ++ zs))
  init : ∀ c f, D.P.init c = some f → N.ki c ∧ Mk N.K (N.cadr c) (D.adr f)
  meth : ∀ c m f, D.P.meth c m = some f → Meth N.K (N.cadr c) (D.mnm m) (D.adr f)
  mnf : ∀ m g, D.mnm m ≠ N.fnm g
/-- a def's promise -/
def spF {F : Type} (N : Nm) (P : Prog F) (n : Nat) (f : F) : Sp := fun vs H Q E => ∃ L ρ h as, StoOk N L ρ H h ∧ Reps N L ρ H as vs ∧ Out N (RT N) E L ρ H (callN P n f as h) Q
section
variable {F : Type} {N : Nm} {D : Pd F} {L : Al} {ρ : Ro} {H : Hp} {h h' : Sto}
theorem cst_rep {t : T} (c : t.cst = true) : Rep N L ρ H t (tv t) := by
  cases t <;> first | rfl | cases c
theorem planT_rep {vs : List T} {us : List V} (r : Reps N L ρ H vs us) : ∀ {pl : List (Nat ⊕ T)} {as : List T}, planT vs pl = some as → Reps N L ρ H as (plV pl us)
  | [], _, e => by cases e; rfl
  | p :: ps, as, e => by
    have e : (match (match p with
      | .inl i => vs[i]?
      | .inr t => if t.cst then some t else none), planT vs ps with
    | some x, some xs => some (x :: xs)
    | _, _ => none) = some as := e
    cases p with
    | inl i =>
      cases w1 : vs[i]? with
      | none => simp only [w1] at e; cases e
      | some x =>
        cases w2 : planT vs ps with
        | none => simp only [w1, w2] at e; cases e
        | some xs =>
          simp only [w1, w2] at e
          cases e
          obtain ⟨u, h1, h2⟩ := r.get w1
          refine ⟨_, _, rfl, ?_, planT_rep r w2⟩
          show Rep N L ρ H x (us.getD i .non)
          rw [List.getD_eq_getElem?_getD, h1]
          exact h2
    | inr t =>
      cases w2 : planT vs ps with
      | none =>
        simp only [w2] at e
        by_cases c : t.cst = true
        · rw [if_pos c] at e; cases e
        · rw [if_neg c] at e; cases e
      | some xs =>
        simp only [w2] at e
        by_cases c : t.cst = true
        · rw [if_pos c] at e
          cases e
          exact ⟨_, _, rfl, cst_rep c, planT_rep r w2⟩
        · rw [if_neg c] at e
          cases e
theorem bind_ok (ok : PdOk N D) {f : F} {n : Nat} {ks : List Nat} {vs ws as : List T} (e : bindA D.P f n ks (vs ++ ws) h = .ok as h') (l1 : vs.length = n) (l2 : ws.length = ks.length) :
    h' = h ∧ ∃ g gV, KBn N.K (D.fd f) (D.ps f) n (ks.map D.kwn) g gV ∧ ∀ (L : Al) (ρ : Ro) (H : Hp) (us zs : List V), Reps N L ρ H vs us → Reps N L ρ H ws zs → Reps N L ρ H as (gV us zs) := by
  unfold bindA at e
  cases w : D.P.plan f n ks with
  | some pl =>
    rw [w] at e
    have e : ofO (planT (vs ++ ws) pl) h = .ok as h' := e
    cases q : planT (vs ++ ws) pl with
    | none => rw [q] at e; cases e
    | some bs =>
      rw [q] at e
      cases e
      obtain ⟨g, hb⟩ := ok.b1 f n ks pl w
      exact ⟨rfl, g, _, hb, fun L ρ H us zs r1 r2 => planT_rep (r1.append r2) q⟩
  | none =>
    rw [w] at e
    by_cases c : (ks.isEmpty && n == (D.P.fn f).arity) = true
    · have e : (if (ks.isEmpty && n == (D.P.fn f).arity) = true then ret (vs ++ ws) else no : M (List T)) h = .ok as h' := e
      rw [if_pos c] at e
      cases e
      simp only [Bool.and_eq_true, List.isEmpty_iff, beq_iff_eq] at c
      obtain ⟨c1, c2⟩ := c
      subst c1
      have : ws = [] := List.eq_nil_of_length_eq_zero l2
      subst this
      obtain ⟨g, hb⟩ := ok.b0 f
      rw [← ok.ar f, ← c2] at hb
      refine ⟨rfl, g, _, hb, fun L ρ H us zs r1 r2 => ?_⟩
      rw [List.append_nil]
      exact r1
    · have e : (if (ks.isEmpty && n == (D.P.fn f).arity) = true then ret (vs ++ ws) else no : M (List T)) h = .ok as h' := e
      rw [if_neg c] at e
      cases e
theorem bind_or (f : F) (n : Nat) (ks : List Nat) (vs : List T) (h : Sto) : (∃ as, bindA D.P f n ks vs h = .ok as h) ∨ bindA D.P f n ks vs h = .no := by
  unfold bindA
  cases D.P.plan f n ks with
  | some pl =>
    show (∃ as, ofO (planT vs pl) h = .ok as h) ∨ ofO (planT vs pl) h = .no
    cases planT vs pl with
    | some as => exact .inl ⟨as, rfl⟩
    | none => exact .inr rfl
  | none =>
    show (∃ as, (if (ks.isEmpty && n == (D.P.fn f).arity) = true then ret vs else no : M (List T)) h = .ok as h) ∨ (if (ks.isEmpty && n == (D.P.fn f).arity) = true then ret vs else no : M (List T)) h = .no
    split
    · exact .inl ⟨vs, rfl⟩
    · exact .inr rfl
/-- a call's promise is met -/
theorem call_sp (ok : PdOk N D) {W : XK} {f : F} {n k : Nat} {ks : List Nat} {vs ws : List T} {us zs : List V} {Q : VK} (S : StoOk N L ρ H h) (r1 : Reps N L ρ H vs us) (r2 : Reps N L ρ H ws zs) (l1 : vs.length = n) (l2 : ws.length = ks.length)
    (o : Out N (RT N) W L ρ H (bnd (bindA D.P f n ks (vs ++ ws)) (callN D.P k f) h) Q) : ∃ g gV, KBn N.K (D.fd f) (D.ps f) n (ks.map D.kwn) g gV ∧ spF N D.P k f (gV us zs) H Q W := by
  rcases bind_or (D := D) f n ks (vs ++ ws) h with ⟨as, e⟩ | e
  · obtain ⟨_, g, gV, hb, rr⟩ := bind_ok ok e l1 l2
    unfold bnd at o
    rw [e] at o
    exact ⟨g, gV, hb, L, ρ, h, as, S, rr L ρ H us zs r1 r2, o⟩
  · unfold bnd at o
    rw [e] at o
    exact o.no.elim
/-! ### a new instance -/
theorem leaveK {H' : Hp} (S : StoOk N L ρ H h) (k : ∀ a o, H a = some o → H' a = some o) : Stp ρ H ρ H' ∧ StoOk N L ρ H' h := by
  have M : Mv N L ρ H L ρ H' := ⟨fun a o _ f => f, fun a o e _ => k a o e, fun a o e _ => k a o e, fun _ _ e => e⟩
  refine ⟨⟨S.liv, fun a o e _ => k a o e, fun _ _ e => .inl e, fun _ _ e => e⟩, S.inj, S.dom, fun i o e => ?_, fun a l => ⟨fun z => ?_, (S.out a l).2⟩⟩
  · obtain ⟨a, e1, r⟩ := S.obj i o e
    exact ⟨a, e1, r.mv M fun u e => k a u e⟩
  · cases w : H a with
    | none => exact (S.out a l).1 w
    | some o => rw [k a o w] at z; cases z
abbrev ρone (x : Addr) : Ro := fun i => if i = 0 then some x else none
theorem ρone_some {x a : Addr} {i : Nat} (e : ρone x i = some a) : i = 0 ∧ x = a := by
  unfold ρone at e
  split at e
  · cases e; exact ⟨by assumption, rfl⟩
  · cases e
theorem make_sp (ok : PdOk N D) {W : XK} {c : Nat} {f : F} {n k : Nat} {ks : List Nat} {vs ws : List T} {us zs : List V} {Q : VK} (S : StoOk N L ρ H h) (r1 : Reps N L ρ H vs us) (r2 : Reps N L ρ H ws zs) (l1 : vs.length = n) (l2 : ws.length = ks.length)
    (hi : D.P.init c = some f) (o : Out N (RT N) W L ρ H (makeN D.P (k + 1) c (n + 1) ks (vs ++ ws) h) Q) : ∃ g gV, KBn N.K (D.fd f) (D.ps f) (n + 1) (ks.map D.kwn) g gV ∧
      ∀ x dx, H x = none → H dx = none → dx ≠ x → spF N D.P k f (gV (.ref x :: us) zs) (upd (upd H dx (.own x)) x (.ins (N.cadr c) dx [])) (fun v H3 => v = .non ∧ Q (.ref x) H3) W := by
  obtain ⟨kc, _⟩ := ok.init c f hi
  have kH : ∀ (x dx : Addr), H x = none → H dx = none → ∀ a u, H a = some u → (upd (upd H dx (.own x)) x (.ins (N.cadr c) dx [])) a = some u := fun x dx hx hdx a u e => by
    rw [upd_ne (ne_of_none e hx), upd_ne (ne_of_none e hdx)]; exact e
  have o : Out N (RT N) W L ρ H ((match D.P.init c with
    | none => no
    | some f => if D.P.frozen c then (if (frzWs (r0 0) (vs ++ ws)).isSome then lift (made c (bnd (bindA D.P f (n + 1) ks (.ref 0 :: (vs ++ ws))) (callN D.P k f) [O.ins c [] []])) else no)
      else bnd (newO (.ins c [] [])) fun x => bnd (bnd (bindA D.P f (n + 1) ks (x :: (vs ++ ws))) (callN D.P k f)) fun r => match r with
        | .non => ret x
        | _ => no) h) Q := by
    unfold makeN at o
    exact o
  rw [hi] at o
  by_cases hf : D.P.frozen c = true
  · have o : Out N (RT N) W L ρ H ((if D.P.frozen c = true then (if (frzWs (r0 0) (vs ++ ws)).isSome then lift (made c (bnd (bindA D.P f (n + 1) ks (.ref 0 :: (vs ++ ws))) (callN D.P k f) [O.ins c [] []])) else no)
      else bnd (newO (.ins c [] [])) fun x => bnd (bnd (bindA D.P f (n + 1) ks (x :: (vs ++ ws))) (callN D.P k f)) fun r => match r with
        | .non => ret x
        | _ => no) h) Q := o
    rw [if_pos hf] at o
    obtain ⟨cl, o⟩ := o.iteN
    rcases bind_or (D := D) f (n + 1) ks ((T.ref 0 :: vs) ++ ws) [O.ins c [] []] with ⟨as, e⟩ | e
    · obtain ⟨_, g, gV, hb, rr⟩ := bind_ok ok e (congrArg Nat.succ l1) l2
      refine ⟨g, gV, hb, fun x dx hx hdx ne => ?_⟩
      have k1 := kH x dx hx hdx
      have S1 : StoOk N (allL L ρ) (ρone x) (upd (upd H dx (.own x)) x (.ins (N.cadr c) dx [])) [O.ins c [] []] := by
        refine ⟨fun i j a e1 e2 => by rw [(ρone_some e1).1, (ρone_some e2).1], fun i a e => by rw [(ρone_some e).1]; exact Nat.zero_lt_one, fun i u e => ?_, fun a l => ⟨?_, fun i e => ?_⟩⟩
        · match i, e with
          | 0, e =>
            cases e
            exact ⟨x, rfl, [], ⟨dx, upd_same, by rw [upd_ne ne, upd_same], rfl, kc⟩, rfl⟩
        · have := (enter0 S).out a l
          cases w : H a with
          | none => exact (this.1 w).elim
          | some u => rw [k1 a u w]; simp
        · have := (enter0 S).out a l
          rw [← (ρone_some e).2] at this
          exact this.1 hx
      have M1 : Mv N (allL L ρ) ρ0 H (allL L ρ) (ρone x) (upd (upd H dx (.own x)) x (.ins (N.cadr c) dx [])) :=
        ⟨fun a u e f => ⟨f.1, fun i q => by rw [← (ρone_some q).2, hx] at e; cases e⟩, fun a u e _ => k1 a u e, fun a u e _ => k1 a u e, fun i a e => nomatch e⟩
      have ra := (enter0_reps cl (r1.append r2)).mv M1
      have ra1 : Reps N (allL L ρ) (ρone x) (upd (upd H dx (.own x)) x (.ins (N.cadr c) dx [])) vs us := by
        have := ra.take vs.length
        rwa [List.take_left, show vs.length = us.length from r1.length, List.take_left] at this
      have ra2 : Reps N (allL L ρ) (ρone x) (upd (upd H dx (.own x)) x (.ins (N.cadr c) dx [])) ws zs := by
        have := ra.drop vs.length
        rwa [List.drop_left, show vs.length = us.length from r1.length, List.drop_left] at this
      refine ⟨_, _, _, as, S1, rr _ _ _ _ _ ⟨_, _, rfl, ⟨x, rfl, rfl⟩, ra1⟩ ra2, ?_⟩
      have o : Out N (RT N) W L ρ H (lift (made c (bnd (bindA D.P f (n + 1) ks ((T.ref 0 :: vs) ++ ws)) (callN D.P k f) [O.ins c [] []])) h) Q := o
      have eb : bnd (bindA D.P f (n + 1) ks ((T.ref 0 :: vs) ++ ws)) (callN D.P k f) [O.ins c [] []] = callN D.P k f as [O.ins c [] []] := by
        unfold bnd
        rw [e]
      rw [eb] at o
      have kept : ∀ {H2 : Hp} {ρ2 : Ro}, Stp (ρone x) (upd (upd H dx (.own x)) x (.ins (N.cadr c) dx [])) ρ2 H2 → ∀ a u, H a = some u → H2 a = some u := fun st a u e => st.keep a u (k1 a u e) fun i q => by
        rw [← (ρone_some q).2, hx] at e; cases e
      cases ec : callN D.P k f as [O.ins c [] []] with
      | no => rw [ec] at o; exact o.no.elim
      | ok v h2 =>
        rw [ec] at o
        cases v with
        | non =>
          refine .inl ⟨.non, h2, rfl, fun b H2 ρ2 st S2 r2 => ⟨r2, ?_⟩⟩
          cases w : h2[0]? with
          | none =>
            have z : made c (R.ok T.non h2) = .no := by unfold made; simp only [w]
            rw [z] at o
            exact o.no.elim
          | some u =>
            cases u with
            | ins d fs vs' =>
              cases w2 : frzWs (rUp 0 h2 (r0 0)) vs' with
              | none =>
                have z : made c (R.ok T.non h2) = .no := by unfold made; simp only [w, w2]
                rw [z] at o
                exact o.no.elim
              | some ws' =>
                by_cases ed : d = c
                · have z : made c (R.ok T.non h2) = .ok (.obj c fs ws') [] := by unfold made; simp only [w, w2, ed, if_true]
                  rw [z] at o
                  obtain ⟨st3, S3⟩ := leaveK S (kept st)
                  obtain ⟨a, e1, ys, hI, rr2⟩ := S2.obj 0 _ w
                  have e2 := st.ref 0 x rfl
                  rw [e2] at e1; cases e1
                  refine o.okD _ _ _ st3 S3 ⟨x, ys, rfl, ⟨fun l => (S.out x l).1 hx, ne_ref S hx⟩, by rw [← ed]; exact hI, ?_⟩
                  have R0 := rst0 (L := L) (ρ := ρ) S2
                  exact frzs_rep (fun a o h1 f => ⟨R0.fz a o h1 f, h1⟩) (fun _ _ h1 _ => h1) (R0.up S2 R0.r0) w2 rr2
                · have z : made c (R.ok T.non h2) = .no := by unfold made; simp only [w, w2, ed, if_false]
                  rw [z] at o
                  exact o.no.elim
            | _ =>
              have z : made c (R.ok T.non h2) = .no := by unfold made; simp only [w]
              rw [z] at o
              exact o.no.elim
        | _ => exact o.no.elim
      | ex t h2 =>
        rw [ec] at o
        refine .inr ⟨t, h2, rfl, fun cl' d' H2 ρ2 st S2 rx => ?_⟩
        cases w : frz 0 h2 t with
        | none =>
          have z : made c (R.ex t h2) = .no := by unfold made; simp only [w]
          rw [z] at o
          exact o.no.elim
        | some t' =>
          have z : made c (R.ex t h2) = .ex t' [] := by unfold made; simp only [w]
          rw [z] at o
          obtain ⟨st3, S3⟩ := leaveK S (kept st)
          rcases o with ⟨_, _, e1, _⟩ | ⟨y, h3, e1, kk⟩
          · cases e1
          · cases e1
            exact kk _ _ _ _ st3 S3 ((rst0 (L := L) (ρ := ρ) S2).frzX S2 w rx)
    · have : bnd (bindA D.P f (n + 1) ks (.ref 0 :: (vs ++ ws))) (callN D.P k f) [O.ins c [] []] = .no := by
        unfold bnd
        rw [show (T.ref 0 :: (vs ++ ws)) = (T.ref 0 :: vs) ++ ws from rfl, e]
      rw [this] at o
      exact o.no.elim
  · have o : Out N (RT N) W L ρ H ((if D.P.frozen c = true then (if (frzWs (r0 0) (vs ++ ws)).isSome then lift (made c (bnd (bindA D.P f (n + 1) ks (.ref 0 :: (vs ++ ws))) (callN D.P k f) [O.ins c [] []])) else no)
      else bnd (newO (.ins c [] [])) fun x => bnd (bnd (bindA D.P f (n + 1) ks (x :: (vs ++ ws))) (callN D.P k f)) fun r => match r with
        | .non => ret x
        | _ => no) h) Q := o
    rw [if_neg hf] at o
    have o : Out N (RT N) W L ρ H (bnd (bnd (bindA D.P f (n + 1) ks ((T.ref h.length :: vs) ++ ws)) (callN D.P k f)) (fun r => match r with
        | .non => ret (T.ref h.length)
        | _ => no) (h ++ [O.ins c [] []])) Q := o
    rcases bind_or (D := D) f (n + 1) ks ((T.ref h.length :: vs) ++ ws) (h ++ [O.ins c [] []]) with ⟨as, e⟩ | e
    · obtain ⟨_, g, gV, hb, rr⟩ := bind_ok ok e (congrArg Nat.succ l1) l2
      refine ⟨g, gV, hb, fun x dx hx hdx ne => ?_⟩
      have S1 := S.upd (u := .own x) hdx
      have hx1 : (upd H dx (.own x)) x = none := by rw [upd_ne (Ne.symm ne)]; exact hx
      have s1 := (stp_upd S (o := .own x) hdx).trans (stp_ins S1 (u := .ins (N.cadr c) dx []) hx1)
      have S2 := S1.ins (o := .ins c [] []) (u := .ins (N.cadr c) dx []) hx1 ⟨[], ⟨dx, upd_same, by rw [upd_ne ne, upd_same], rfl, kc⟩, rfl⟩
      have eb : bnd (bnd (bindA D.P f (n + 1) ks ((T.ref h.length :: vs) ++ ws)) (callN D.P k f)) (fun r => match r with
        | .non => ret (T.ref h.length)
        | _ => no) (h ++ [O.ins c [] []]) = bnd (callN D.P k f as) (fun r => match r with
        | .non => ret (T.ref h.length)
        | _ => no) (h ++ [O.ins c [] []]) := by
        rw [bnd_assoc]
        conv => lhs; unfold bnd
        rw [e]
        rfl
      rw [eb] at o
      refine ⟨_, _, _, as, S2, rr _ _ _ _ _ ⟨_, _, rfl, ⟨x, rfl, rIns_new⟩, r1.stp s1⟩ (r2.stp s1), ((o.step s1).bnd (rl := RT N)).imp fun v H3 ⟨ρ3, a, h3, _, s3, S3, ra, o3⟩ => ?_⟩
      cases a with
      | non => exact ⟨ra, o3.ret S3 ⟨x, rfl, s3.ref _ _ rIns_new⟩⟩
      | _ => exact o3.no.elim
    · have : bnd (bnd (bindA D.P f (n + 1) ks ((T.ref h.length :: vs) ++ ws)) (callN D.P k f)) (fun r => match r with
        | .non => ret (T.ref h.length)
        | _ => no) (h ++ [O.ins c [] []]) = .no := by
        unfold bnd
        rw [e]
      rw [this] at o
      exact o.no.elim
end
end Mt

set_option maxHeartbeats 8000000
/-! Mt15: the rules of calls. -/
namespace L2
open PySem PySem.Spec PyProof.Rows
theorem PK.imp {X : Cx} {kws : List Keyword} {t t' : TA} (p : PK X kws t) (f : ∀ σ H Q, t' σ H Q → t σ H Q) : PK X kws t' := ⟨fun pos pins s σ H Q I q => p.run pos pins s σ H Q I (f σ H Q q)⟩
end L2
namespace Mt
open PySem PySem.Spec PyProof.Rows L2
section
variable {F : Type} {N : Nm} {D : Pd F} {X : Cx} {W : WX} {a e o : Expr} {es : List Expr} {kws : List Keyword} {Ea Eo : Env → M T} {Es Ks : Env → M (List T)} {n k : Nat} {ks : List Nat} {pos p kpos apos : Pos} {x : Str} {f : F} {nm : Option Str}
theorem pk_tnil : PK X [] (tOfA N W fun _ => ret []) := pk_nil.imp fun σ H Q ⟨L, ρ, h, σT, S, E, o⟩ => o.ret S (show Reps N L ρ H [] [] from rfl)
theorem pk_tcons (ha : PE X a (tOf N W Ea)) (hr : PK X kws (tOfA N W Es)) : PK X (⟨nm, a, kpos⟩ :: kws) (tOfA N W fun σ => bnd (Ea σ) fun x => bnd (Es σ) fun xs => ret (x :: xs)) :=
  (pk_cons ha hr).imp fun σ H Q ⟨L, ρ, h, σT, S, E, o⟩ => ofBnd S E o fun x H1 ρ1 t h1 s1 S1 E1 r1 o1 => ofBndA S1 E1 o1 fun y H2 ρ2 u h2 s2 S2 E2 r2 o2 => o2.ret S2 (show Reps N L ρ2 H2 (t :: u) (x :: y) from ⟨x, y, rfl, r1.stp s2, r2⟩)
/-- two argument lists -/
theorem two_args {α β : Type} {rl : Rl α β} {L : Al} {ρ : Ro} {H : Hp} {h : Sto} {σT : Env} {σ : L2.St} {f : List T → List T → M α} {Q : β → Hp → Prop} {Q' : List V → List V → Hp → Prop} (hE : ∀ σ h vs h', Es σ h = .ok vs h' → vs.length = n) (hKs : ∀ σ h vs h', Ks σ h = .ok vs h' → vs.length = ks.length) (S : StoOk N L ρ H h) (E : ERel N L ρ H σT σ)
    (o : Out N rl (WE W σ) L ρ H (bnd (Es σT) (fun vs => bnd (Ks σT) fun ws => f vs ws) h) Q)
    (g : ∀ us zs H2 ρ2 vs ws h2, Stp ρ H ρ2 H2 → StoOk N L ρ2 H2 h2 → Reps N L ρ2 H2 vs us → Reps N L ρ2 H2 ws zs → vs.length = n → ws.length = ks.length → Out N rl (WE W σ) L ρ2 H2 (f vs ws h2) Q → Q' us zs H2) :
    tOfA N W Es σ H (fun us H1 => tOfA N W Ks σ H1 fun zs H2 => Q' us zs H2) :=
  ⟨L, ρ, h, σT, S, E, (o.bnd (rl := RTs N)).imp fun us H1 ⟨ρ1, vs, h1, e1, s1, S1, r1, o1⟩ => ⟨L, ρ1, h1, σT, S1, E.stp s1, (o1.bnd (rl := RTs N)).imp fun zs H2 ⟨ρ2, ws, h2, e2, s2, S2, r2, o2⟩ =>
    g us zs H2 ρ2 vs ws h2 (s1.trans s2) S2 (r1.stp s2) r2 (hE _ _ _ _ e1) (hKs _ _ _ _ e2) o2⟩⟩
theorem pe_tcall (ok : PdOk N D) (hK : X.K = N.K) (F : FnG X.prog X.w X.K X.mg X.base k (D.adr f) (D.fd f) (D.ps f) (spF N D.P k f)) (hr : Room k X.A) (hgd : X.A.guards = some []) (hx : ∀ σ, PassesAt (L2N.CX X.prog X.w) X σ (WE W σ)) (hg : Gl X x) (hm : X.mg x = some (.ref (D.adr f)))
    (hE : ∀ σ h vs h', Es σ h = .ok vs h' → vs.length = n) (hKs : ∀ σ h vs h', Ks σ h = .ok vs h' → vs.length = ks.length)
    (ha : PA X (e :: es) (tOfA N W Es)) (hkw : PK X kws (tOfA N W Ks)) (hall : (backToKw pos (keywordEach kws X.env)).all (·.1.isSome) = true) (hks : (backToKw pos (keywordEach kws X.env)).filterMap (·.1) = ks.map D.kwn)
    (hdb : (x == ("__debug__" : Str)) = false) (he : starEach (e :: es) X.env = (false, eval e X.env) :: starEach es X.env)
    (hpl : ((backTo pos (starEach (e :: es) X.env)).any (·.1) || (backToKw pos (keywordEach kws X.env)).any (·.1.isNone)) = false) :
    PE X (.Call (.Name x p) (e :: es) kws pos) (tOf N W fun σ => bnd (Es σ) fun vs => bnd (Ks σ) fun ws => bnd (bindA D.P f n ks (vs ++ ws)) (callN D.P k f)) :=
  (pe_callG (n := n) hg hm (by rw [hK]; exact ok.kp f) F hr hgd hx ha hkw hall hks hdb he hpl).imp fun σ H Q ⟨L, ρ, h, σT, S, E, o⟩ => two_args hE hKs S E o fun us zs H2 ρ2 vs ws h2 s2 S2 r1 r2 l1 l2 o2 => by
    obtain ⟨g, gV, hb, q⟩ := call_sp ok S2 r1 r2 l1 l2 o2
    exact ⟨r1.length.symm.trans l1, by rw [List.length_map]; exact r2.length.symm.trans l2, g, gV, by rw [hK]; exact hb, q⟩
theorem pe_tcall0 (ok : PdOk N D) (hK : X.K = N.K) (F : FnG X.prog X.w X.K X.mg X.base k (D.adr f) (D.fd f) (D.ps f) (spF N D.P k f)) (hr : Room k X.A) (hgd : X.A.guards = some []) (hx : ∀ σ, PassesAt (L2N.CX X.prog X.w) X σ (WE W σ)) (hg : Gl X x) (hm : X.mg x = some (.ref (D.adr f)))
    (hKs : ∀ σ h vs h', Ks σ h = .ok vs h' → vs.length = ks.length)
    (hkw : PK X kws (tOfA N W Ks)) (hall : (backToKw pos (keywordEach kws X.env)).all (·.1.isSome) = true) (hks : (backToKw pos (keywordEach kws X.env)).filterMap (·.1) = ks.map D.kwn)
    (hdb : (x == ("__debug__" : Str)) = false) (hpl : ((backTo pos (starEach [] X.env)).any (·.1) || (backToKw pos (keywordEach kws X.env)).any (·.1.isNone)) = false) :
    PE X (.Call (.Name x p) [] kws pos) (tOf N W fun σ => bnd (ret []) fun vs => bnd (Ks σ) fun ws => bnd (bindA D.P f 0 ks (vs ++ ws)) (callN D.P k f)) :=
  (pe_callG0 hg hm (by rw [hK]; exact ok.kp f) F hr hgd hx hkw hall hks hdb hpl).imp fun σ H Q ⟨L, ρ, h, σT, S, E, o⟩ => by
    have o : Out N (RT N) (WE W σ) L ρ H (bnd (Ks σT) (fun ws => bnd (bindA D.P f 0 ks ([] ++ ws)) (callN D.P k f)) h) Q := o
    exact ⟨L, ρ, h, σT, S, E, (o.bnd (rl := RTs N)).imp fun zs H2 ⟨ρ2, ws, h2, e2, s2, S2, r2, o2⟩ => by
      have l2 := hKs _ _ _ _ e2
      obtain ⟨g, gV, hb, q⟩ := call_sp ok S2 (show Reps N L ρ2 H2 [] [] from rfl) r2 rfl l2 o2
      exact ⟨by rw [List.length_map]; exact r2.length.symm.trans l2, g, gV, by rw [hK]; exact hb, q⟩⟩
variable {c : Nat}
theorem pe_tmake (ok : PdOk N D) (hK : X.K = N.K) (hi : D.P.init c = some f) (F : FnG X.prog X.w X.K X.mg X.base k (D.adr f) (D.fd f) (D.ps f) (spF N D.P k f)) (hr : Room (k + 1) X.A) (hgd : X.A.guards = some []) (hx : ∀ σ, PassesAt (L2N.CX X.prog X.w) X σ (WE W σ)) (hg : Gl X x) (hm : X.mg x = some (.ref (N.cadr c)))
    (hE : ∀ σ h vs h', Es σ h = .ok vs h' → vs.length = n) (hKs : ∀ σ h vs h', Ks σ h = .ok vs h' → vs.length = ks.length)
    (ha : PA X (e :: es) (tOfA N W Es)) (hkw : PK X kws (tOfA N W Ks)) (hall : (backToKw pos (keywordEach kws X.env)).all (·.1.isSome) = true) (hks : (backToKw pos (keywordEach kws X.env)).filterMap (·.1) = ks.map D.kwn)
    (hdb : (x == ("__debug__" : Str)) = false) (he : starEach (e :: es) X.env = (false, eval e X.env) :: starEach es X.env)
    (hpl : ((backTo pos (starEach (e :: es) X.env)).any (·.1) || (backToKw pos (keywordEach kws X.env)).any (·.1.isNone)) = false) :
    PE X (.Call (.Name x p) (e :: es) kws pos) (tOf N W fun σ => bnd (Es σ) fun vs => bnd (Ks σ) fun ws => makeN D.P (k + 1) c (n + 1) ks (vs ++ ws)) :=
  (pe_makeG (n := n) (by rw [hK]; exact (ok.init c f hi).2) hg hm F hr hgd hx ha hkw hall hks hdb he hpl).imp fun σ H Q ⟨L, ρ, h, σT, S, E, o⟩ => two_args hE hKs S E o fun us zs H2 ρ2 vs ws h2 s2 S2 r1 r2 l1 l2 o2 => by
    obtain ⟨g, gV, hb, q⟩ := make_sp ok S2 r1 r2 l1 l2 hi o2
    exact ⟨r1.length.symm.trans l1, by rw [List.length_map]; exact r2.length.symm.trans l2, g, gV, by rw [hK]; exact hb, q⟩
theorem pe_tmake0 (ok : PdOk N D) (hK : X.K = N.K) (hi : D.P.init c = some f) (F : FnG X.prog X.w X.K X.mg X.base k (D.adr f) (D.fd f) (D.ps f) (spF N D.P k f)) (hr : Room (k + 1) X.A) (hgd : X.A.guards = some []) (hx : ∀ σ, PassesAt (L2N.CX X.prog X.w) X σ (WE W σ)) (hg : Gl X x) (hm : X.mg x = some (.ref (N.cadr c)))
    (hKs : ∀ σ h vs h', Ks σ h = .ok vs h' → vs.length = ks.length)
    (hkw : PK X kws (tOfA N W Ks)) (hall : (backToKw pos (keywordEach kws X.env)).all (·.1.isSome) = true) (hks : (backToKw pos (keywordEach kws X.env)).filterMap (·.1) = ks.map D.kwn)
    (hdb : (x == ("__debug__" : Str)) = false) (hpl : ((backTo pos (starEach [] X.env)).any (·.1) || (backToKw pos (keywordEach kws X.env)).any (·.1.isNone)) = false) :
    PE X (.Call (.Name x p) [] kws pos) (tOf N W fun σ => bnd (ret []) fun vs => bnd (Ks σ) fun ws => makeN D.P (k + 1) c (0 + 1) ks (vs ++ ws)) :=
  (pe_makeG0 (by rw [hK]; exact (ok.init c f hi).2) hg hm F hr hgd hx hkw hall hks hdb hpl).imp fun σ H Q ⟨L, ρ, h, σT, S, E, o⟩ => by
    have o : Out N (RT N) (WE W σ) L ρ H (bnd (Ks σT) (fun ws => makeN D.P (k + 1) c (0 + 1) ks ([] ++ ws)) h) Q := o
    exact ⟨L, ρ, h, σT, S, E, (o.bnd (rl := RTs N)).imp fun zs H2 ⟨ρ2, ws, h2, e2, s2, S2, r2, o2⟩ => by
      have l2 := hKs _ _ _ _ e2
      obtain ⟨g, gV, hb, q⟩ := make_sp ok S2 (show Reps N L ρ2 H2 [] [] from rfl) r2 rfl l2 hi o2
      exact ⟨by rw [List.length_map]; exact r2.length.symm.trans l2, g, gV, by rw [hK]; exact hb, q⟩⟩
/-! ### methods -/
theorem lookup_zip_none {m : Str} : ∀ {fs : List Str} {ys : List V}, (∀ g ∈ fs, m ≠ g) → (fs.zip ys).lookup m = none
  | [], _, _ => rfl
  | _ :: _, [], _ => rfl
  | f :: fs, y :: ys, h => by
    show List.lookup m ((f, y) :: fs.zip ys) = none
    unfold List.lookup
    have : (m == f) = false := beq_eq_false_iff_ne.mpr (h f (List.mem_cons_self ..))
    rw [this]
    exact lookup_zip_none fun g hg => h g (List.mem_cons_of_mem _ hg)
theorem cls_rep {α β : Type} {rl : Rl α β} {Wx : XK} {L : Al} {ρ : Ro} {H : Hp} {h : Sto} {t : T} {v : V} {f : Nat → M α} {Q : β → Hp → Prop} (S : StoOk N L ρ H h) (r : Rep N L ρ H t v) (o : Out N rl Wx L ρ H (bnd (clsT t) f h) Q) :
    ∃ p c fs ys, v = .ref p ∧ InsV N H p c fs ys ∧ Out N rl Wx L ρ H (f c h) Q := by
  cases t with
  | obj c fs vs => obtain ⟨p, ys, rfl, _, hI, _⟩ := r; exact ⟨p, c, fs, ys, rfl, hI, o⟩
  | ref i =>
    obtain ⟨p, rfl, q⟩ := r
    have o' : Out N rl Wx L ρ H (Mt.bnd (Mt.getO i) (fun u => Mt.bnd (match u with
      | O.ins c _ _ => Mt.ret c
      | _ => Mt.no) f) h) Q := by
      rw [← bnd_assoc]
      exact o
    obtain ⟨u, w, o2⟩ := o'.getO
    obtain ⟨b, e3, ro⟩ := S.obj i _ w
    rw [q] at e3; cases e3
    cases u with
    | ins c fs vs => obtain ⟨ys, hI, _⟩ := ro; exact ⟨p, c, fs, ys, rfl, hI, o2⟩
    | _ => exact o2.no.elim
  | _ => exact o.no.elim
variable {m : Nat} {pl : Sem Bool}
theorem meth_pre (ok : PdOk N D) {L : Al} {ρ : Ro} {H : Hp} {h : Sto} {p : Addr} {c : Nat} {fs : List Nat} {ys : List V} {f : F} (hI : InsV N H p c fs ys) (hm : D.P.meth c m = some f) :
    ∃ dx gs, H p = some (.ins (N.cadr c) dx gs) ∧ gs.lookup (D.mnm m) = none ∧ Cls N.K (N.cadr c) ∧ Meth N.K (N.cadr c) (D.mnm m) (D.adr f) := by
  obtain ⟨dx, e1, e2, e3, e4⟩ := hI
  refine ⟨dx, _, e1, lookup_zip_none fun g hg => ?_, (N.insK c e4).1, ok.meth c m f hm⟩
  obtain ⟨i, _, rfl⟩ := List.mem_map.mp hg
  exact ok.mnf m i
theorem pe_tmeth (ok : PdOk N D) (hK : X.K = N.K) (F : ∀ f, FnG X.prog X.w X.K X.mg X.base k (D.adr f) (D.fd f) (D.ps f) (spF N D.P k f)) (hr : Room k X.A) (hgd : X.A.guards = some []) (hx : ∀ σ, PassesAt (L2N.CX X.prog X.w) X σ (WE W σ)) (ho : PE X o (tOf N W Eo))
    (hE : ∀ σ h vs h', Es σ h = .ok vs h' → vs.length = n) (hKs : ∀ σ h vs h', Ks σ h = .ok vs h' → vs.length = ks.length)
    (ha : PA X (e :: es) (tOfA N W Es)) (hkw : PK X kws (tOfA N W Ks)) (hall : (backToKw pos (keywordEach kws X.env)).all (·.1.isSome) = true) (hks : (backToKw pos (keywordEach kws X.env)).filterMap (·.1) = ks.map D.kwn)
    (he : starEach (e :: es) X.env = (false, eval e X.env) :: starEach es X.env)
    (hpl : ((backTo pos (starEach (e :: es) X.env)).any (·.1) || (backToKw pos (keywordEach kws X.env)).any (·.1.isNone)) = false)
    (ht : eval (.Call (.Attribute o (D.mnm m) apos) (e :: es) kws pos) X.env = (do
      let ov ← eval o X.env
      standAt apos.atName
      let (f, first) ← holding [ov] (getMethod ov (D.mnm m) pl)
      callWith pos f first (backTo pos (starEach (e :: es) X.env)) (backToKw pos (keywordEach kws X.env)))) :
    PE X (.Call (.Attribute o (D.mnm m) apos) (e :: es) kws pos) (tOf N W fun σ => bnd (Eo σ) fun x => bnd (clsT x) fun c => bnd (ofO (D.P.meth c m)) fun f => bnd (Es σ) fun vs => bnd (Ks σ) fun ws => bnd (bindA D.P f (n + 1) ks (x :: (vs ++ ws))) (callN D.P k f)) :=
  (pe_methG (n := n) (E := WE W) ho hgd hx ha hkw hall hks he hpl ht).imp fun σ H Q ⟨L, ρ, h, σT, S, E, o⟩ => ofBnd S E o fun x H1 ρ1 t h1 s1 S1 E1 r1 o1 => by
    obtain ⟨p, c, fs, ys, rfl, hI, o1⟩ := cls_rep S1 r1 o1
    obtain ⟨f, ef, o1⟩ := o1.bndO
    obtain ⟨dx, gs, g1, g2, g3, g4⟩ := meth_pre ok (L := L) (ρ := ρ1) (h := h1) hI ef
    refine ⟨p, N.cadr c, dx, gs, D.adr f, rfl, g1, g2, by rw [hK]; exact g3, by rw [hK]; exact g4, two_args hE hKs S1 E1 o1 fun us zs H2 ρ2 vs ws h2 s2 S2 r2 r3 l1 l2 o2 => ?_⟩
    obtain ⟨g, gV, hb, q⟩ := call_sp ok (vs := t :: vs) (us := .ref p :: us) (n := n + 1) S2 ⟨_, _, rfl, r1.stp s2, r2⟩ r3 (congrArg Nat.succ l1) l2 o2
    exact ⟨r2.length.symm.trans l1, by rw [List.length_map]; exact r3.length.symm.trans l2, k, D.adr f, D.fd f, D.ps f, spF N D.P k f, g, gV, F f, by rw [hK]; exact g4, hr, by rw [hK]; exact hb, q⟩
theorem pe_tmeth0 (ok : PdOk N D) (hK : X.K = N.K) (F : ∀ f, FnG X.prog X.w X.K X.mg X.base k (D.adr f) (D.fd f) (D.ps f) (spF N D.P k f)) (hr : Room k X.A) (hgd : X.A.guards = some []) (hx : ∀ σ, PassesAt (L2N.CX X.prog X.w) X σ (WE W σ)) (ho : PE X o (tOf N W Eo))
    (hKs : ∀ σ h vs h', Ks σ h = .ok vs h' → vs.length = ks.length)
    (hkw : PK X kws (tOfA N W Ks)) (hall : (backToKw pos (keywordEach kws X.env)).all (·.1.isSome) = true) (hks : (backToKw pos (keywordEach kws X.env)).filterMap (·.1) = ks.map D.kwn)
    (hpl : ((backTo pos (starEach [] X.env)).any (·.1) || (backToKw pos (keywordEach kws X.env)).any (·.1.isNone)) = false)
    (ht : eval (.Call (.Attribute o (D.mnm m) apos) [] kws pos) X.env = (do
      let ov ← eval o X.env
      standAt apos.atName
      let (f, first) ← holding [ov] (getMethod ov (D.mnm m) pl)
      callWith pos f first (backTo pos (starEach [] X.env)) (backToKw pos (keywordEach kws X.env)))) :
    PE X (.Call (.Attribute o (D.mnm m) apos) [] kws pos) (tOf N W fun σ => bnd (Eo σ) fun x => bnd (clsT x) fun c => bnd (ofO (D.P.meth c m)) fun f => bnd (ret []) fun vs => bnd (Ks σ) fun ws => bnd (bindA D.P f (0 + 1) ks (x :: (vs ++ ws))) (callN D.P k f)) :=
  (pe_methG0 (E := WE W) ho hgd hx hkw hall hks hpl ht).imp fun σ H Q ⟨L, ρ, h, σT, S, E, o⟩ => ofBnd S E o fun x H1 ρ1 t h1 s1 S1 E1 r1 o1 => by
    obtain ⟨p, c, fs, ys, rfl, hI, o1⟩ := cls_rep S1 r1 o1
    obtain ⟨f, ef, o1⟩ := o1.bndO
    obtain ⟨dx, gs, g1, g2, g3, g4⟩ := meth_pre ok (L := L) (ρ := ρ1) (h := h1) hI ef
    have o1 : Out N (RT N) (WE W σ) L ρ1 H1 (bnd (Ks σT) (fun ws => bnd (bindA D.P f (0 + 1) ks (t :: ([] ++ ws))) (callN D.P k f)) h1) Q := o1
    refine ⟨p, N.cadr c, dx, gs, D.adr f, rfl, g1, g2, by rw [hK]; exact g3, by rw [hK]; exact g4, L, ρ1, h1, σT, S1, E1, (o1.bnd (rl := RTs N)).imp fun zs H2 ⟨ρ2, ws, h2, e2, s2, S2, r3, o2⟩ => ?_⟩
    have l2 := hKs _ _ _ _ e2
    obtain ⟨g, gV, hb, q⟩ := call_sp ok (vs := [t]) (us := [.ref p]) (n := 0 + 1) S2 ⟨_, _, rfl, r1.stp s2, rfl⟩ r3 rfl l2 o2
    exact ⟨by rw [List.length_map]; exact r3.length.symm.trans l2, k, D.adr f, D.fd f, D.ps f, spF N D.P k f, g, gV, F f, by rw [hK]; exact g4, hr, by rw [hK]; exact hb, q⟩
end
end Mt

set_option maxHeartbeats 8000000
/-! Mt15e: == of two instances of one class, by its own __eq__. -/
namespace Mt
open PySem PySem.Spec PyProof.Rows L2
theorem eq_back {X : Cx} {pins : List (Addr × Obj)} {σ : L2.St} {Q : VK} {v : Value} {s' : Shared} (h : EP X pins σ Q v s') : PySem.W.CmpBack (EP X pins σ Q) v s' := by
  cases v with
  | notImplemented =>
    obtain ⟨x, H', I', r, q⟩ := h
    cases x <;> first | (cases r; done) | (obtain ⟨_, r⟩ := r; cases r)
  | _ => exact h
section
variable {F : Type} {N : Nm} {D : Pd F} {k : Nat} {W : WX} {X : Cx} {m : Nat} {a b : Expr} {Ea Eb : Env → M T} {pos : Pos}
theorem eqo_bin (ok : PdOk N D) (hK : X.K = N.K) (F : ∀ f, FnG X.prog X.w X.K X.mg X.base k (D.adr f) (D.fd f) (D.ps f) (spF N D.P k f)) (hr : Room k X.A) (hgd : X.A.guards = some []) (hx : ∀ σ, PassesAt (L2N.CX X.prog X.w) X σ (WE W σ))
    (hq : D.mnm m = ("__eq__" : Str)) (ha : PE X a (tOf N W Ea)) (hb : PE X b (tOf N W Eb))
    {pins : List (Addr × Obj)} {s : Shared} {σ : L2.St} {H : Hp} {Q : VK} (I : Inv X pins σ H s) (h : tOf N W (fun σ => bnd (Ea σ) fun x => bnd (Eb σ) fun y => eqoT D.P (callN D.P k) m x y) σ H Q) :
    wpAny (model X.prog X.w) X.A (eval a X.env) (fun v s₁ => wpAny (model X.prog X.w) X.A (eval b X.env) (fun u s₂ => wpAny (model X.prog X.w) X.A (compareOp .Eq v u) (EP X pins σ Q) X.xe s₂) X.xe s₁) X.xe s := by
  have h' : tOp (fun x y H Q => ∃ p q C dx dy fs gs f, x = .ref p ∧ y = .ref q ∧ H p = some (.ins C dx fs) ∧ H q = some (.ins C dy gs) ∧ Meth N.K C (D.mnm m) (D.adr f) ∧ ∃ g gV, KBn N.K (D.fd f) (D.ps f) 2 [] g gV ∧ spF N D.P k f (gV [.ref p, .ref q] []) H Q (WE W σ)) (tOf N W Ea) (tOf N W Eb) σ H Q := by
    obtain ⟨L, ρ, h, σT, S, E, o⟩ := h
    refine ofBnd S E o fun x H1 ρ1 t h1 s1 S1 E1 r1 o1 => ofBnd S1 E1 o1 fun y H2 ρ2 u h2 s2 S2 E2 r2 o2 => ?_
    have r1 := r1.stp s2
    obtain ⟨p, c, fs, ys, rfl, hI, o3⟩ := cls_rep S2 r1 o2
    obtain ⟨q, d, gs, zs, rfl, hJ, o4⟩ := cls_rep S2 r2 o3
    by_cases e : d = c
    · subst e
      have o4 : Out N (RT N) (WE W σ) L ρ2 H2 (bnd (ofO (D.P.meth d m)) (fun f => bnd (bindA D.P f 2 [] ([t, u] ++ [])) (callN D.P k f)) h2) Q := by
        rw [if_pos rfl] at o4
        exact o4
      obtain ⟨f, ef, o5⟩ := o4.bndO
      obtain ⟨dx, gs', g1, g2, g3, g4⟩ := meth_pre ok (L := L) (ρ := ρ2) (h := h2) hI ef
      obtain ⟨dy, e1, _⟩ := hJ
      obtain ⟨g, gV, hb', sp⟩ := call_sp ok (vs := [t, u]) (us := [.ref p, .ref q]) (n := 2) (ks := []) S2 ⟨_, _, rfl, r1, _, _, rfl, r2, rfl⟩ (show Reps N L ρ2 H2 [] [] from rfl) rfl rfl o5
      exact ⟨p, q, N.cadr d, dx, dy, gs', _, f, rfl, rfl, g1, e1, g4, g, gV, hb', sp⟩
    · rw [if_neg e] at o4
      exact o4.no.elim
  refine binT ha hb I h' fun v u s2 x y H2 I2 rx ry q => ?_
  obtain ⟨p, q, C, dx, dy, fs, gs, f, rfl, rfl, e1, e2, hM, g, gV, hB, sp⟩ := q
  cases rx
  cases ry
  obtain ⟨mA, J, _⟩ := ins_get I2.hok e1
  obtain ⟨mB, J', _⟩ := ins_get I2.hok e2
  obtain ⟨od, J, _⟩ := J.look
  obtain ⟨od', J', _⟩ := J'.look
  obtain ⟨mm, hF⟩ := I2.fr
  rw [← hK] at hM hB
  have hat := hM.at_
  rw [hq] at hat
  show wpAny (model X.prog X.w) X.A (richCompare .Eq (.ref p) (.ref q)) (EP X pins σ Q) X.xe s2
  refine PySem.W.cmp_K (op := .Eq) (tb := .ref C) hr.units0 hF I2.ok.mod.kin J J'.type (by simp [PySem.W.notFirst]) hat hM.fn ?_
  exact wpAny_mono (run_fnG (E := WE W) (us := [.ref p, .ref q]) (vs := [.ref p, .ref q]) (zs := []) (ws := []) (F f) hr hgd hB (hx σ) I2 (.cons rfl (.cons rfl .nil)) .nil rfl rfl sp) (fun v s' z => eq_back z) fun _ _ x => x
theorem pe_teqo (ok : PdOk N D) (hK : X.K = N.K) (F : ∀ f, FnG X.prog X.w X.K X.mg X.base k (D.adr f) (D.fd f) (D.ps f) (spF N D.P k f)) (hr : Room k X.A) (hgd : X.A.guards = some []) (hx : ∀ σ, PassesAt (L2N.CX X.prog X.w) X σ (WE W σ))
    (hq : D.mnm m = ("__eq__" : Str)) (ha : PE X a (tOf N W Ea)) (hb : PE X b (tOf N W Eb)) (hm : behindInMarks .Eq b = false) :
    PE X (.Compare a [.Eq] [b] pos) (tOf N W fun σ => bnd (Ea σ) fun x => bnd (Eb σ) fun y => eqoT D.P (callN D.P k) m x y) :=
  ⟨fun pins s σ H Q I h => wpAny_Compare1 (eqo_bin ok hK F hr hgd hx hq ha hb I h) hm⟩
theorem pt_teqo (ok : PdOk N D) (hK : X.K = N.K) (F : ∀ f, FnG X.prog X.w X.K X.mg X.base k (D.adr f) (D.fd f) (D.ps f) (spF N D.P k f)) (hr : Room k X.A) (hgd : X.A.guards = some []) (hx : ∀ σ, PassesAt (L2N.CX X.prog X.w) X σ (WE W σ))
    (hq : D.mnm m = ("__eq__" : Str)) (ha : PE X a (tOf N W Ea)) (hb : PE X b (tOf N W Eb)) (hm : behindInMarks .Eq b = false) :
    PT X (.Compare a [.Eq] [b] pos) (tOfB N W fun σ => bnd (bnd (Ea σ) fun x => bnd (Eb σ) fun y => eqoT D.P (callN D.P k) m x y) truT) := by
  refine ⟨fun pins s σ H Q I h => ?_⟩
  obtain ⟨L, ρ, h, σT, S, E, o⟩ := h
  have h' : tOf N W (fun σ => bnd (Ea σ) fun x => bnd (Eb σ) fun y => eqoT D.P (callN D.P k) m x y) σ H (fun x H1 => rB N truT x H1 Q) := ofBnd S E o fun x H1 ρ1 t h1 s1 S1 E1 r1 o1 => ⟨_, L, ρ1, h1, t, S1, r1, o1⟩
  exact wpAny_isTrue_Compare1 (thn (eqo_bin ok hK F hr hgd hx hq ha hb I h') fun v s1 w1 => thn w1 fun u s2 w2 => thn w2 fun c s3 ⟨x, H', I', rx, q⟩ => ok_tru hK pins s3 σ H' x c Q I' rx q) hm
end
end Mt

set_option maxHeartbeats 8000000
/-! Mt16: from the syntax tree to the core, and what its shapes give. -/
namespace Mt
open PySem PySem.Spec PyProof.Rows L2

/-! ### shapes -/
def isStar : Expr → Bool
  | .Starred _ _ => true
  | _ => false
def isSet : Expr → Bool
  | .Set _ _ _ => true
  | _ => false
def isSlice : Expr → Bool
  | .Slice _ _ _ _ => true
  | _ => false
def isSuper : Expr → Bool
  | .Call (.Name _ _) [] [] _ => true
  | _ => false
theorem star_cons {a : Expr} {es : List Expr} {env : PySem.Env} (h : isStar a = false) : starEach (a :: es) env = (false, eval a env) :: starEach es env := by
  cases a <;> first | rfl | cases h
theorem star_any {pos : Pos} {env : PySem.Env} : ∀ {es : List Expr}, es.all (fun a => !isStar a) = true → (backTo pos (starEach es env)).any (·.1) = false
  | [], _ => rfl
  | a :: es, h => by
    simp only [List.all_cons, Bool.and_eq_true, Bool.not_eq_true'] at h
    rw [star_cons h.1]
    show (false || (backTo pos (starEach es env)).any (·.1)) = false
    rw [Bool.false_or]
    exact star_any h.2
theorem star_all {pos : Pos} {env : PySem.Env} : ∀ {es : List Expr}, es.all (fun a => !isStar a) = true → (backTo pos (starEach es env)).all (fun x => !x.1) = true
  | [], _ => rfl
  | a :: es, h => by
    simp only [List.all_cons, Bool.and_eq_true, Bool.not_eq_true'] at h
    rw [star_cons h.1]
    show (true && (backTo pos (starEach es env)).all (fun x => !x.1)) = true
    rw [Bool.true_and]
    exact star_all h.2
theorem kw_all {pos : Pos} {env : PySem.Env} : ∀ {kws : List Keyword}, kws.all (fun k => k.arg.isSome) = true → (backToKw pos (keywordEach kws env)).all (·.1.isSome) = true
  | [], _ => rfl
  | ⟨n, e, p⟩ :: kws, h => by
    simp only [List.all_cons, Bool.and_eq_true] at h
    show (n.isSome && (backToKw pos (keywordEach kws env)).all (·.1.isSome)) = true
    rw [show n.isSome = true from h.1, Bool.true_and]
    exact kw_all h.2
theorem kw_any {pos : Pos} {env : PySem.Env} : ∀ {kws : List Keyword}, kws.all (fun k => k.arg.isSome) = true → (backToKw pos (keywordEach kws env)).any (·.1.isNone) = false
  | [], _ => rfl
  | ⟨n, e, p⟩ :: kws, h => by
    simp only [List.all_cons, Bool.and_eq_true] at h
    show (n.isNone || (backToKw pos (keywordEach kws env)).any (·.1.isNone)) = false
    have h1 : n.isSome = true := h.1
    have : n.isNone = false := by cases n <;> first | rfl | cases h1
    rw [this, Bool.false_or]
    exact kw_any h.2
theorem kw_names {pos : Pos} {env : PySem.Env} : ∀ {kws : List Keyword}, (backToKw pos (keywordEach kws env)).filterMap (·.1) = kws.filterMap (·.arg)
  | [] => rfl
  | ⟨n, e, p⟩ :: kws => by
    show ((n, _) :: backToKw pos (keywordEach kws env)).filterMap (·.1) = _
    rw [List.filterMap_cons, List.filterMap_cons, kw_names (kws := kws)]
theorem kw_length {pos : Pos} {env : PySem.Env} : ∀ {kws : List Keyword}, (backToKw pos (keywordEach kws env)).length = kws.length
  | [] => rfl
  | ⟨n, e, p⟩ :: kws => congrArg Nat.succ (kw_length (kws := kws))
theorem star_length {pos : Pos} {env : PySem.Env} : ∀ {es : List Expr}, (backTo pos (starEach es env)).length = es.length
  | [] => rfl
  | a :: es => by
    cases a <;> exact congrArg Nat.succ (star_length (es := es))
theorem few_ok {pos : Pos} {env : PySem.Env} {es : List Expr} {kws : List Keyword} (h1 : es.all (fun a => !isStar a) = true) (h2 : kws.all (fun k => k.arg.isSome) = true) (h3 : es.length + kws.length < 29) :
    methodCallForm (es.length + kws.length) (backTo pos (starEach es env)) (backToKw pos (keywordEach kws env)) = true := by
  unfold methodCallForm
  rw [star_all h1, kw_all h2]
  simp only [Bool.true_and, decide_eq_true_eq]
  split <;> omega
theorem fold_ok {e : Expr} {env : PySem.Env} (h : isSet e = false) : ∀ x, foldedSetIterable e env x = pure x := fun x => by
  cases e <;> first | rfl | cases h
theorem marks_ok {op : CmpOp} {e : Expr} (h : isSet e = false) : behindInMarks op e = false := by
  cases e <;> first | rfl | cases h
theorem sub_ok {b : Expr} (h : isSlice b = false) : ∀ o i, subscripted b false o i = operate [o, i] (getItem o i) := fun o i => by
  cases b <;> first | rfl | cases h
theorem base_ok {a : Expr} {n : Str} {env : PySem.Env} (h : isSuper a = false) : attributeBase a n env (eval a env) = eval a env := by
  unfold attributeBase
  split
  · cases h
  · rfl
theorem asub_ok {o i : Expr} {pos : Pos} {env : PySem.Env} (h : isSlice i = false) : ∀ v, assign (.Subscript o i pos) env v = (do
      let ov ← holding [v] (eval o env)
      let iv ← holding [v, ov] (eval i env)
      standAt pos
      holding [v, ov, iv] (setItem ov iv v)
      release [v, ov, iv] []) := fun v => by
  cases i <;> first | rfl | cases h
theorem meth_eval {o : Expr} {m : Str} {apos pos : Pos} {es : List Expr} {kws : List Keyword} {env : PySem.Env} (hb : attributeBase o m env (eval o env) = eval o env) (hf : methodCallForm (es.length + kws.length) (backTo pos (starEach es env)) (backToKw pos (keywordEach kws env)) = true) (hl : (apos.endLine == pos.line) = true) :
    eval (.Call (.Attribute o m apos) es kws pos) env = (do
      let ov ← eval o env
      standAt apos.atName
      let (f, first) ← holding [ov] (getMethod ov m (do return (← importBound o env).getD true))
      callWith pos f first (backTo pos (starEach es env)) (backToKw pos (keywordEach kws env))) := by
  show (do
    let ov ← attributeBase o m env (eval o env)
    standAt apos.atName
    methodCall o m apos pos env ov (es.length + kws.length) (backTo pos (starEach es env)) (backToKw pos (keywordEach kws env))) = _
  rw [hb]
  unfold methodCall methodCallPos calleeOf
  rw [hf]
  simp only [Bool.not_true, Bool.false_or, hl, if_true, pure_bind]
/-- a test that is nothing special -/
def plainT : Expr → Bool
  | .UnaryOp .Not _ _ => false
  | .BoolOp _ _ _ => false
  | .IfExp _ _ _ _ => false
  | .Compare _ _ _ _ => false
  | _ => true
theorem plain_ok {e : Expr} {env : PySem.Env} (h : plainT e = true) : ∀ whole, isTrue e env whole = (do let v ← whole; standAt e.pos; holding [v] (truthy v)) := fun whole => by
  cases e with
  | UnaryOp op a p => cases op <;> first | rfl | cases h
  | BoolOp _ _ _ => cases h
  | IfExp _ _ _ _ => cases h
  | Compare _ _ _ _ => cases h
  | _ => rfl

/-! ### the context -/
structure Tx (F : Type) where
  nms : List Str
  sc : Scope
  fnb : Option Scope
  gf : Str → Option F
  gc : Str → Option Nat
  gi : Nat → Bool
  gg : Str → Option Nat
  kf : Str → Option Nat
  km : Str → Option Nat
  kk : Str → Option Nat
  nb : Str → Bool
  mu : Pos → Bool
def ixOf (x : Str) : List Str → Option Nat
  | [] => none
  | y :: ys => if x = y then some 0 else (ixOf x ys).map (· + 1)
theorem ixOf_some {x : Str} : ∀ {l : List Str} {i : Nat}, ixOf x l = some i → l[i]? = some x
  | [], _, h => by cases h
  | y :: ys, i, h => by
    unfold ixOf at h
    split at h
    · cases h; rename_i e; rw [e]; rfl
    · cases w : ixOf x ys with
      | none => rw [w] at h; cases h
      | some j =>
        rw [w] at h
        cases h
        show ys[j]? = some x
        exact ixOf_some w
def vis (sc : Scope) (x : Str) : Bool := match sc.names.lookup x with
  | some .local => true
  | some .cell => true
  | some .free => true
  | _ => false
theorem vis_ok {sc : Scope} {x : Str} (h : vis sc x = true) : Vis sc x := by
  unfold vis at h
  unfold Vis
  split at h
  · exact .inl (by assumption)
  · exact .inr (.inl (by assumption))
  · exact .inr (.inr (by assumption))
  · cases h
def gl (sc : Scope) (x : Str) : Bool := match sc.names.lookup x with
  | some .globalImplicit => true
  | _ => false
theorem gl_ok {sc : Scope} {x : Str} (h : gl sc x = true) : sc.names.lookup x = some .globalImplicit := by
  unfold gl at h
  split at h
  · assumption
  · cases h
def opOf : Operator → Option Op
  | .Add => some .add
  | .Sub => some .sub
  | .Mult => some .mul
  | .FloorDiv => some .fdiv
  | .Mod => some .mod
  | .Pow => some .pow
  | _ => none
theorem opOf_ok {o : Operator} {p : Op} (h : opOf o = some p) : opO p = o := by
  cases o <;> cases h <;> rfl
def cmOf : CmpOp → Cm
  | .Eq => .eq
  | .NotEq => .ne
  | .Lt => .lt
  | .LtE => .le
  | .Gt => .gt
  | .GtE => .ge
  | .Is => .is
  | .IsNot => .isn
  | .In => .in_
  | .NotIn => .nin
/-- a comparison: by the data, or (where the tables say so) by an own __eq__ -/
def eqC {F : Type} (Γ : Tx F) (p : Pos) (o : CmpOp) (ca c1 : C F) : Option (C F) := match o, Γ.mu p with
  | .Eq, true => (Γ.km "__eq__").map fun mi => .eqo mi ca c1
  | o, _ => some (.cmp (cmOf o) ca c1)
theorem eqC_or {F : Type} {Γ : Tx F} {p : Pos} {o : CmpOp} {ca c1 c : C F} (h : eqC Γ p o ca c1 = some c) : (o = .Eq ∧ ∃ mi, Γ.km "__eq__" = some mi ∧ c = .eqo mi ca c1) ∨ c = .cmp (cmOf o) ca c1 := by
  unfold eqC at h
  cases o <;> cases em : Γ.mu p <;> rw [em] at h <;> first
    | exact .inr (Option.some.inj h).symm
    | (obtain ⟨mi, e3, e4⟩ := Option.map_eq_some_iff.mp h; exact .inl ⟨rfl, mi, e3, e4.symm⟩)
theorem cmOf_ok {o : CmpOp} : cmO (cmOf o) = o := by cases o <;> rfl
/-- built-ins by name and the number of their arguments -/
def prims : List (Str × Nat × Prim) := [("len", 1, .len), ("tuple", 1, .tuple), ("list", 1, .list), ("sorted", 1, .sorted), ("min", 2, .min2), ("max", 2, .max2), ("sum", 1, .sum), ("all", 1, .all), ("any", 1, .any), ("int", 1, .int), ("repr", 1, .repr), ("abs", 1, .abs), ("divmod", 2, .divmod)]
def primOf (x : Str) (n : Nat) : List (Str × Nat × Prim) → Option Prim
  | [] => none
  | (y, m, p) :: r => if x = y ∧ n = m then some p else primOf x n r
def tyOf : List (Str × Ty) := [("int", .int), ("bool", .bool), ("str", .str), ("tuple", .tup), ("list", .lst), ("bytes", .byt), ("dict", .dct)]
def bms : List (Str × Nat × Bm) := [("append", 1, .append), ("extend", 1, .extend), ("pop", 0, .pop)]
def bmOf (x : Str) (n : Nat) : List (Str × Nat × Bm) → Option Bm
  | [] => none
  | (y, m, p) :: r => if x = y ∧ n = m then some p else bmOf x n r
section
variable {F : Type} (r : Tx F → Expr → Option (C F)) (Γ : Tx F)
def trL : List Expr → Option (List (C F))
  | [] => some []
  | a :: es => match r Γ a, trL es with
    | some c, some cs => some (c :: cs)
    | _, _ => none
def trK : List Keyword → Option (List Nat × List (C F))
  | [] => some ([], [])
  | ⟨n, a, _⟩ :: ks => match n.bind Γ.kk, r Γ a, trK ks with
    | some i, some c, some (is, cs) => some (i :: is, c :: cs)
    | _, _, _ => none
def trO : Option Expr → Option (Option (C F))
  | none => some none
  | some a => (r Γ a).map some
def trName (x : Str) : Option (C F) :=
  if x = ("__debug__" : Str) ∨ x = ("__classdict__" : Str) then none else
  if gl Γ.sc x then (Γ.gg x).map .glob else if vis Γ.sc x then (ixOf x Γ.nms).map .var else none
/-- a class as isinstance asks for it -/
def trTy : Expr → Option Ty
  | .Name x _ => if gl Γ.sc x ∧ ¬ x = ("__debug__" : Str) then (match Γ.gc x with
    | some c => some (.cls c)
    | none => if Γ.nb x ∧ ¬ x = ("__name__" : Str) then tyOf.lookup x else none) else none
  | _ => none
def boC : BoolOp → C F → C F → C F
  | .And, ca, cb => .and ca cb
  | .Or, ca, cb => .or ca cb
/-- a name that may be stored -/
def stOk (x : Str) : Bool := match Γ.sc.names.lookup x with
  | some .local => true
  | some .cell => (match Γ.fnb with
    | none => true
    | some s => s.names.lookup x == some .cell)
  | _ => false
/-- a target; its slots -/
def trG : Nat → Expr → Option (C F × List Nat)
  | 0, _ => none
  | n + 1, .Name x _ => if stOk Γ x then (ixOf x Γ.nms).map fun i => (.tName i, [i]) else none
  | n + 1, .Tuple es _ _ => (trGs n es).map fun p => (.tTup p.1, p.2)
  | _ + 1, .Subscript o i _ => if isSlice i then none else (match r Γ o, r Γ i with
    | some co, some ci => some (.tSub co ci, [])
    | _, _ => none)
  | _ + 1, .Attribute o f _ => (match r Γ o, Γ.kf f with
    | some co, some i => some (.tFld co i, [])
    | _, _ => none)
  | _ + 1, _ => none
where trGs : Nat → List Expr → Option (List (C F) × List Nat)
  | _, [] => some ([], [])
  | 0, _ :: _ => none
  | n + 1, e :: es => match trG n e, trGs n es with
    | some (c, s), some (cs, ss) => some (c :: cs, s ++ ss)
    | _, _ => none
/-- what is walked -/
def trI (tg : Expr) (it : Expr) : Option (C F) := match it with
  | .Call (.Name x _) args [] _ =>
    if gl Γ.sc x ∧ Γ.nb x then
      (if x = ("range" : Str) then (match args with
        | [a] => (r Γ a).map (.iRng (.con (.int 0)))
        | [a, b] => (match r Γ a, r Γ b with
          | some ca, some cb => some (.iRng ca cb)
          | _, _ => none)
        | _ => none)
      else match tg with
        | .Tuple _ _ _ => (if x = ("enumerate" : Str) then (match args with
            | [a] => (r Γ a).map (.iEnum 0)
            | _ => none)
          else if x = ("zip" : Str) then (match args with
            | [a, b] => (match r Γ a, r Γ b with
              | some ca, some cb => some (.iZip ca cb)
              | _, _ => none)
            | _ => none)
          else (r Γ it).map .iSeq)
        | _ => (r Γ it).map .iSeq)
    else (r Γ it).map .iSeq
  | _ => (r Γ it).map .iSeq
/-- the own names of a block -/
def ownOf (scope : Scope) : List (Str × NameKind) → List (Str × Nat)
  | [] => []
  | (x, k) :: l => match (match k with
      | .local => ixOf x Γ.nms
      | .cell => ixOf x Γ.nms
      | _ => none) with
    | some i => (x, i) :: ownOf scope l
    | none => ownOf scope l
def inBlk (scope : Scope) : Tx F := { Γ with sc := relS scope Γ.sc, fnb := some scope }
def trIf (Γ : Tx F) : List Expr → Option (List (C F))
  | [] => some []
  | [c] => (r Γ c).map fun c => [c]
  | _ => none
def trComp (elt : Expr) (scope : Scope) (p : Pos) : List Comprehension → Option (C F)
  | [⟨tg, it, ifs, 0⟩] =>
    let own := ownOf Γ scope scope.names
    let Γ' := inBlk Γ scope
    if blkC Γ.nms Γ.sc scope own then (match trI r Γ tg it, trG r Γ' 4 tg, trIf r Γ' ifs, r Γ' elt with
      | some ci, some (cg, sl), some cf, some ce => if sl.all (fun i => (own.map (·.2)).contains i) ∧ ¬ isSet it then some (.lc (Γ.mu p) cg ci cf ce (own.map (·.2))) else none
      | _, _, _, _ => none) else none
  | [⟨tg, it, ifs, 0⟩, ⟨tg1, it1, ifs1, 0⟩] =>
    let own := ownOf Γ scope scope.names
    let Γ' := inBlk Γ scope
    if blkC Γ.nms Γ.sc scope own then (match trI r Γ tg it, trG r Γ' 4 tg, trIf r Γ' ifs, r Γ' elt with
      | some ci, some (cg, sl), some cf, some ce => (match trI r Γ' tg1 it1, trG r Γ' 4 tg1, trIf r Γ' ifs1 with
        | some ci1, some (cg1, sl1), some cf1 => if sl.all (fun i => (own.map (·.2)).contains i) ∧ sl1.all (fun i => (own.map (·.2)).contains i) ∧ ¬ isSet it ∧ ¬ isSet it1 then
            some (.lc2 (Γ.mu p) cg ci cf cg1 ci1 cf1 ce (own.map (·.2)) sl1) else none
        | _, _, _ => none)
      | _, _, _, _ => none) else none
  | _ => none
def trCall (f : Expr) (args : List Expr) (kws : List Keyword) (p : Pos) : Option (C F) := match f with
  | .Name x _ =>
    if gl Γ.sc x ∧ ¬ x = ("__debug__" : Str) then (match Γ.gf x with
      | some fn => (match trL r Γ args, trK r Γ kws with
        | some cs, some (ks, kcs) => some (.call fn cs ks kcs)
        | _, _ => none)
      | none => match Γ.gc x with
        | some c => if ¬ Γ.gi c then none else (match trL r Γ args, trK r Γ kws with
          | some cs, some (ks, kcs) => some (.make c cs ks kcs)
          | _, _ => none)
        | none => if Γ.nb x ∧ ¬ x = ("__name__" : Str) then (match kws with
          | [] => if x = ("isinstance" : Str) then (match args with
              | [a, c] => (match r Γ a, trTy Γ c with
                | some ca, some t => some (.isi ca t)
                | _, _ => none)
              | _ => none)
            else (match primOf x args.length prims, trL r Γ args with
              | some pr, some cs => some (.prim pr (Γ.mu p) cs)
              | _, _ => none)
          | _ => none) else none)
    else none
  | .Attribute o m ap => if isSuper o ∨ ¬ ap.endLine = p.line ∨ ¬ args.length + kws.length < 29 then none else (match Γ.km m with
    | some mi => (match r Γ o, trL r Γ args, trK r Γ kws with
      | some co, some cs, some (ks, kcs) => some (.meth co mi cs ks kcs)
      | _, _, _ => none)
    | none => match kws with
      | [] => (match bmOf m args.length bms, r Γ o, trL r Γ args with
        | some b, some co, some cs => some (.bm b co cs)
        | _, _, _ => none)
      | _ => none)
  | _ => none
def trStep : Expr → Option (C F)
  | .Constant c _ _ => (match c with
    | .int i => some (.con (.int i))
    | .bool b => some (.con (.bl b))
    | .none => some (.con .non)
    | .str s => some (.con (.str s))
    | _ => none)
  | .Name x _ => trName Γ x
  | .BinOp a op b p => (match opOf op, r Γ a, r Γ b with
    | some o, some ca, some cb => some (.bin o (Γ.mu p) ca cb)
    | _, _, _ => none)
  | .UnaryOp op a _ => (match op with
    | .Not => (r Γ a).map .not
    | .USub => (r Γ a).map .neg
    | _ => none)
  | .BoolOp op es p => (match es with
    | [a] => r Γ a
    | a :: b :: rest => (match r Γ a, r Γ (.BoolOp op (b :: rest) p) with
      | some ca, some cb => some (boC op ca cb)
      | _, _ => none)
    | [] => none)
  | .IfExp c a b _ => (match r Γ c, r Γ a, r Γ b with
    | some cc, some ca, some cb => some (.ite cc ca cb)
    | _, _, _ => none)
  | .Compare a ops bs p => (match ops, bs with
    | [o1], [b1] => (match r Γ a, r Γ b1 with
      | some ca, some c1 => eqC Γ p o1 ca c1
      | _, _ => none)
    | [o1, o2], [b1, b2] => (match r Γ a, r Γ b1, r Γ b2 with
      | some ca, some c1, some c2 => some (.cmp2 (cmOf o1) (cmOf o2) ca c1 c2)
      | _, _, _ => none)
    | [o1, o2, o3], [b1, b2, b3] => (match r Γ a, r Γ b1, r Γ b2, r Γ b3 with
      | some ca, some c1, some c2, some c3 => some (.cmp3 (cmOf o1) (cmOf o2) (cmOf o3) ca c1 c2 c3)
      | _, _, _, _ => none)
    | _, _ => none)
  | .Tuple es _ _ => (trL r Γ es).map .tup
  | .List es p => (trL r Γ es).map (.lst (Γ.mu p))
  | .Subscript a i p => (match i with
    | .Slice lo hi st _ => (match st with
      | none => (match r Γ a, trO r Γ lo, trO r Γ hi with
        | some ca, some cl, some ch => some (.slc (Γ.mu p) ca cl ch)
        | _, _, _ => none)
      | some _ => none)
    | i => (match r Γ a, r Γ i with
      | some ca, some ci => some (.idx ca ci)
      | _, _ => none))
  | .Attribute a f _ => if isSuper a then none else (match r Γ a, Γ.kf f with
    | some ca, some i => some (.fld ca i)
    | _, _ => none)
  | .Call f args kws p => trCall r Γ f args kws p
  | .ListComp elt gens scope p => trComp r Γ elt scope p gens
  | _ => none
end
def trE {F : Type} : Nat → Tx F → Expr → Option (C F)
  | 0 => fun _ _ => none
  | n + 1 => fun Γ e => trStep (trE n) Γ e
end Mt

set_option maxHeartbeats 8000000
/-! Mt17: expressions mean what their core means. -/
namespace Mt
open PySem PySem.Spec PyProof.Rows L2

structure TxOk {F : Type} (N : Nm) (D : Pd F) (k : Nat) (W : WX) (X : Cx) (Γ : Tx F) : Prop where
  hK : X.K = N.K
  nms : X.N = Γ.nms
  nd : Γ.nms.Nodup
  sc : X.env.scope = Γ.sc
  kind : Γ.sc.kind = .function
  calm : X.calm = true
  room : Room k X.A
  gd : X.A.guards = some []
  fn : ∀ x, (match Γ.fnb with
    | none => true
    | some s => s.names.lookup x == some .cell) = true → X.fn x = true
  gfO : ∀ x f, Γ.gf x = some f → X.mg x = some (.ref (D.adr f))
  gcO : ∀ x c, Γ.gc x = some c → X.mg x = some (.ref (N.cadr c)) ∧ N.kc c
  giO : ∀ c, Γ.gi c = true → ∃ f, D.P.init c = some f
  ggO : ∀ x g, Γ.gg x = some g → ∃ t v u, D.P.glob g = some t ∧ X.mg x = some u ∧ RelV v u ∧ ∀ L ρ H, Rep N L ρ H t v
  nbO : ∀ x, Γ.nb x = true → X.mg x = none
  kfO : ∀ x i, Γ.kf x = some i → N.fnm i = x ∧ N.kf i
  kmO : ∀ x i, Γ.km x = some i → D.mnm i = x
  kkO : ∀ x i, Γ.kk x = some i → D.kwn i = x
  FG : ∀ j, j ≤ k → ∀ f, FnG X.prog X.w X.K X.mg X.base j (D.adr f) (D.fd f) (D.ps f) (spF N D.P j f)
  ok : PdOk N D
  pass : ∀ σ, PassesAt (L2N.CX X.prog X.w) X σ (WE W σ)
section
variable {F : Type} {N : Nm} {D : Pd F} {k : Nat} {W : WX} {X : Cx} {Γ : Tx F}
theorem TxOk.gl (o : TxOk N D k W X Γ) {x : Str} (h : Mt.gl Γ.sc x = true) : Gl X x := by
  show X.env.scope.names.lookup x = _
  rw [o.sc]
  exact gl_ok h
theorem TxOk.units (o : TxOk N D k W X Γ) : X.A.units + 65 < cLine := by have := o.room.un; omega
theorem pass_wf {X : Cx} (σ : L2.St) : PassesAt (L2N.CX X.prog X.w) X σ (WE WF σ) := L2N.passAt (fun u s' ⟨_, _, _, _, _, _, _, _, _, _, _, _, _, _, _, _, w⟩ => w.elim) σ
/-- within a block -/
theorem TxOk.blk (o : TxOk N D k W X Γ) {scope : Scope} (hs : scope.kind = .function) (s : Shared) (H : Hp) (C : Addr) (cl : List (Str × Addr)) (fp : List Addr) : TxOk N D k WF (X.blk s H scope (compEnvC scope cl C X.env) fp) (inBlk Γ scope) where
  hK := o.hK
  nms := o.nms
  nd := o.nd
  sc := by
    show relS scope X.env.scope = relS scope Γ.sc
    rw [o.sc]
  kind := hs
  calm := o.calm
  room := o.room
  gd := o.gd
  fn := fun x h => h
  gfO := o.gfO
  gcO := o.gcO
  giO := o.giO
  ggO := o.ggO
  nbO := o.nbO
  kfO := o.kfO
  kmO := o.kmO
  kkO := o.kkO
  FG := o.FG
  ok := o.ok
  pass := fun σ => pass_wf σ
end
section
variable {F : Type} (N : Nm) (D : Pd F) (k : Nat)
abbrev eE (c : C F) : Env → M T := ev D.P (callN D.P k) (makeN D.P k) c
abbrev eT (c : C F) : Env → M Bool := evT D.P (callN D.P k) (makeN D.P k) c
abbrev eEs (c : List (C F)) : Env → M (List T) := evs D.P (callN D.P k) (makeN D.P k) c
abbrev eI (c : C F) : Env → M (List T × M Unit) := iter D.P (callN D.P k) (makeN D.P k) c
abbrev eA (c : C F) : T → Env → M Env := asg D.P (callN D.P k) (makeN D.P k) c
abbrev eAs (c : List (C F)) : List T → Env → M Env := asgs D.P (callN D.P k) (makeN D.P k) c
def SndE (r : Tx F → Expr → Option (C F)) : Prop := ∀ (W : WX) (X : Cx) (Γ : Tx F), TxOk N D k W X Γ → ∀ (e : Expr) (c : C F), r Γ e = some c → PE X e (tOf N W (eE D k c))
def SndT (r : Tx F → Expr → Option (C F)) : Prop := ∀ (W : WX) (X : Cx) (Γ : Tx F), TxOk N D k W X Γ → ∀ (e : Expr) (c : C F), r Γ e = some c → PT X e (tOfB N W (eT D k c))
def SndW (r : Tx F → Expr → Option (C F)) : Prop := ∀ (W : WX) (X : Cx) (Γ : Tx F), TxOk N D k W X Γ → ∀ (op : BoolOp) (es : List Expr) (p : Pos) (c : C F), r Γ (.BoolOp op es p) = some c → PW X (.BoolOp op es p) (tOfB N W (eT D k c))
end
/-- shapes that are never told -/
def Shp {F : Type} (r : Tx F → Expr → Option (C F)) : Prop := ∀ (Γ : Tx F) (e : Expr) (c : C F), r Γ e = some c → isStar e = false ∧ isSet e = false ∧ isSlice e = false
theorem shp {F : Type} : ∀ n, Shp (trE (F := F) n)
  | 0 => fun Γ e c h => by cases h
  | n + 1 => fun Γ e c h => by
    have h : trStep (trE n) Γ e = some c := h
    cases e <;> first | exact ⟨rfl, rfl, rfl⟩ | cases h
section
variable {F : Type} {N : Nm} {D : Pd F} {k : Nat} {W : WX} {X : Cx} {Γ : Tx F} {r : Tx F → Expr → Option (C F)}
theorem trL_cons {a : Expr} {es : List Expr} {cs : List (C F)} (h : trL r Γ (a :: es) = some cs) : ∃ c cr, r Γ a = some c ∧ trL r Γ es = some cr ∧ cs = c :: cr := by
  unfold trL at h
  cases h1 : r Γ a with
  | none => rw [h1] at h; cases h
  | some c =>
    cases h2 : trL r Γ es with
    | none => rw [h1, h2] at h; cases h
    | some cr => rw [h1, h2] at h; cases h; exact ⟨c, cr, rfl, rfl, rfl⟩
theorem trL_star (sh : Shp r) : ∀ {es : List Expr} {cs : List (C F)}, trL r Γ es = some cs → es.all (fun a => !isStar a) = true
  | [], _, _ => rfl
  | a :: es, cs, h => by
    obtain ⟨c, cr, h1, h2, _⟩ := trL_cons h
    rw [List.all_cons, (sh _ _ _ h1).1, trL_star sh h2]
    rfl
theorem trL_len : ∀ {es : List Expr} {cs : List (C F)}, trL r Γ es = some cs → cs.length = es.length
  | [], _, h => by cases h; rfl
  | a :: es, cs, h => by
    obtain ⟨c, cr, h1, h2, rfl⟩ := trL_cons h
    exact congrArg Nat.succ (trL_len h2)
theorem snd_L (sh : Shp r) (se : SndE N D k r) (o : TxOk N D k W X Γ) : ∀ {es : List Expr} {cs : List (C F)}, trL r Γ es = some cs → PA X es (tOfA N W (eEs D k cs))
  | [], _, h => by cases h; exact pa_tnil
  | a :: es, cs, h => by
    obtain ⟨c, cr, h1, h2, rfl⟩ := trL_cons h
    exact pa_tcons (se _ _ _ o _ _ h1) (snd_L sh se o h2) (star_cons (sh _ _ _ h1).1)
theorem evs_len {P : Prog F} {G : F → List T → M T} {mk : Nat → Nat → List Nat → List T → M T} : ∀ {cs : List (C F)} {σ : Env} {h h' : Sto} {vs : List T}, evs P G mk cs σ h = .ok vs h' → vs.length = cs.length
  | [], _, _, _, _, e => by cases e; rfl
  | c :: cs, σ, h, h', vs, e => by
    have e : bnd (ev P G mk c σ) (fun x => bnd (evs P G mk cs σ) fun xs => ret (x :: xs)) h = .ok vs h' := e
    unfold bnd at e
    cases w : ev P G mk c σ h with
    | no => rw [w] at e; cases e
    | ex _ _ => rw [w] at e; cases e
    | ok x h1 =>
      rw [w] at e
      dsimp only at e
      cases w2 : evs P G mk cs σ h1 with
      | no => rw [w2] at e; cases e
      | ex _ _ => rw [w2] at e; cases e
      | ok xs h2 =>
        rw [w2] at e
        cases e
        exact congrArg Nat.succ (evs_len w2)
theorem trK_cons {a : Keyword} {kws : List Keyword} {p : List Nat × List (C F)} (h : trK r Γ (a :: kws) = some p) : ∃ n i c is cs, a.arg = some n ∧ Γ.kk n = some i ∧ r Γ a.value = some c ∧ trK r Γ kws = some (is, cs) ∧ p = (i :: is, c :: cs) := by
  obtain ⟨n, v, q⟩ := a
  unfold trK at h
  cases n with
  | none => cases h
  | some n =>
    have h : (match Γ.kk n, r Γ v, trK r Γ kws with
      | some i, some c, some (is, cs) => some (i :: is, c :: cs)
      | _, _, _ => none) = some p := h
    cases h1 : Γ.kk n with
    | none => rw [h1] at h; cases h
    | some i =>
      cases h2 : r Γ v with
      | none => rw [h1, h2] at h; cases h
      | some c =>
        cases h3 : trK r Γ kws with
        | none => rw [h1, h2, h3] at h; cases h
        | some w =>
          obtain ⟨is, cs⟩ := w
          rw [h1, h2, h3] at h
          cases h
          exact ⟨n, i, c, is, cs, rfl, h1, rfl, rfl, rfl⟩
theorem snd_K (se : SndE N D k r) (o : TxOk N D k W X Γ) : ∀ {kws : List Keyword} {is : List Nat} {cs : List (C F)}, trK r Γ kws = some (is, cs) → PK X kws (tOfA N W (eEs D k cs)) ∧ kws.filterMap (·.arg) = is.map D.kwn ∧ kws.all (fun k => k.arg.isSome) = true ∧ is.length = kws.length ∧ cs.length = is.length
  | [], _, _, h => by cases h; exact ⟨pk_tnil, rfl, rfl, rfl, rfl⟩
  | a :: kws, is, cs, h => by
    obtain ⟨n, i, c, is', cs', h1, h2, h3, h4, e⟩ := trK_cons h
    cases e
    obtain ⟨q1, q2, q3, q4, q5⟩ := snd_K se o h4
    obtain ⟨nm, v, p⟩ := a
    cases (show nm = some n from h1)
    refine ⟨pk_tcons (se _ _ _ o _ _ h3) q1, ?_, ?_, congrArg Nat.succ q4, congrArg Nat.succ q5⟩
    · rw [List.filterMap_cons]
      show n :: kws.filterMap (·.arg) = D.kwn i :: is'.map D.kwn
      rw [q2, o.kkO n i h2]
    · rw [List.all_cons, q3]
      rfl
theorem snd_O (se : SndE N D k r) (o : TxOk N D k W X Γ) {a : Option Expr} {c : Option (C F)} (h : trO r Γ a = some c) : PO X a (tOfO N W (evO D.P (callN D.P k) (makeN D.P k) c)) := by
  cases a with
  | none => cases h; exact po_tnone
  | some a =>
    have h : (r Γ a).map some = some c := h
    cases w : r Γ a with
    | none => rw [w] at h; cases h
    | some c' => rw [w] at h; cases h; exact po_tsome (se _ _ _ o _ _ w)
theorem snd_name (o : TxOk N D k W X Γ) {x : Str} {p : Pos} {c : C F} (h : trName Γ x = some c) : PE X (.Name x p) (tOf N W (eE D k c)) := by
  unfold trName at h
  split at h
  · cases h
  · rename_i hx
    have hd : (x == ("__debug__" : Str)) = false := beq_eq_false_iff_ne.mpr fun e => hx (.inl e)
    have hcd : (x == ("__classdict__" : Str)) = false := beq_eq_false_iff_ne.mpr fun e => hx (.inr e)
    split at h
    · rename_i hg
      cases w : Γ.gg x with
      | none => rw [w] at h; cases h
      | some g =>
        rw [w] at h
        cases h
        obtain ⟨t, v, u, e1, e2, e3, e4⟩ := o.ggO x g w
        have := (pe_tcon (N := N) (W := W) (pe_glob (pos := p) (o.gl hg) e2 e3 hd) e4)
        exact this.imp fun σ H Q ⟨L, ρ, h, σT, S, E, q⟩ => ⟨L, ρ, h, σT, S, E, by
          have q : Out N (RT N) (WE W σ) L ρ H (ofO (D.P.glob g) h) Q := q
          rw [e1] at q
          exact q⟩
    · split at h
      · rename_i hv
        cases w : ixOf x Γ.nms with
        | none => rw [w] at h; cases h
        | some i =>
          rw [w] at h
          cases h
          exact pe_tvar (pe_var (by rw [o.nms]; exact ixOf_some w) (by rw [o.sc]; exact vis_ok hv) hd hcd)
      · cases h
theorem primOf_mem {x : Str} {n : Nat} {p : Prim} : ∀ {l : List (Str × Nat × Prim)}, primOf x n l = some p → (x, n, p) ∈ l
  | [], h => by cases h
  | (y, m, q) :: l, h => by
    unfold primOf at h
    split at h
    · rename_i e
      cases h
      rw [e.1, e.2]
      exact List.mem_cons_self ..
    · exact List.mem_cons_of_mem _ (primOf_mem h)
theorem bmOf_mem {x : Str} {n : Nat} {p : Bm} : ∀ {l : List (Str × Nat × Bm)}, bmOf x n l = some p → (x, n, p) ∈ l
  | [], h => by cases h
  | (y, m, q) :: l, h => by
    unfold bmOf at h
    split at h
    · rename_i e
      cases h
      rw [e.1, e.2]
      exact List.mem_cons_self ..
    · exact List.mem_cons_of_mem _ (bmOf_mem h)
theorem prims_ok : ∀ q ∈ prims, bootBuiltins q.1 = some (primV q.2.2) ∧ q.2.1 ≠ 0 := by decide +kernel
theorem prims_kind : ∀ q ∈ prims, (∃ id, primV q.2.2 = .builtin id) ∨ ∃ id, primV q.2.2 = .type id := by
  intro q hq
  simp only [prims, List.mem_cons, List.not_mem_nil, or_false] at hq
  rcases hq with rfl | rfl | rfl | rfl | rfl | rfl | rfl | rfl | rfl | rfl | rfl | rfl | rfl <;> first | exact .inl ⟨_, rfl⟩ | exact .inr ⟨_, rfl⟩
theorem snd_prim (sh : Shp r) (se : SndE N D k r) (o : TxOk N D k W X Γ) {x : Str} {q p : Pos} {args : List Expr} {pr : Prim} {cs : List (C F)} (hg : gl Γ.sc x = true) (hb : Γ.nb x = true) (hn : x ≠ ("__name__" : Str)) (hd : x ≠ ("__debug__" : Str)) (h1 : primOf x args.length prims = some pr) (h2 : trL r Γ args = some cs) :
    PE X (.Call (.Name x q) args [] p) (tOf N W (eE D k (.prim pr (Γ.mu p) cs))) := by
  have hm := primOf_mem h1
  obtain ⟨b1, b2⟩ := prims_ok _ hm
  cases args with
  | nil => exact (b2 rfl).elim
  | cons a es =>
    have st := trL_star sh h2
    simp only [List.all_cons, Bool.and_eq_true, Bool.not_eq_true'] at st
    have ha := snd_L sh se o h2
    have hr := ok_prim o.hK o.calm o.units o.gd (m := Γ.mu p) pr
    have hdb : (x == ("__debug__" : Str)) = false := beq_eq_false_iff_ne.mpr hd
    rcases prims_kind _ hm with ⟨id, e⟩ | ⟨id, e⟩
    · have e : primV pr = .builtin id := e
      rw [e] at hr
      exact pe_tcallB hr (o.gl hg) (o.nbO x hb) (by rw [← e]; exact b1) ha hn hdb (star_cons st.1) (star_any st.2)
    · have e : primV pr = .type id := e
      rw [e] at hr
      exact pe_tcallTy hr (o.gl hg) (o.nbO x hb) (by rw [← e]; exact b1) ha hn hdb (star_cons st.1) (star_any st.2)
def tyNm : Ty → Option String
  | .int => some "int"
  | .bool => some "bool"
  | .str => some "str"
  | .tup => some "tuple"
  | .lst => some "list"
  | .byt => some "bytes"
  | .dct => some "dict"
  | .cls _ => none
theorem tyOf_ok : ∀ q ∈ Mt.tyOf, ∃ n, tyNm q.2 = some n ∧ bootBuiltins q.1 = some (.type n) := by
  intro q hq
  simp only [Mt.tyOf, List.mem_cons, List.not_mem_nil, or_false] at hq
  rcases hq with rfl | rfl | rfl | rfl | rfl | rfl | rfl <;> exact ⟨_, rfl, by decide +kernel⟩
theorem lookup_mem {α β : Type} [BEq α] [LawfulBEq α] {x : α} {b : β} : ∀ {l : List (α × β)}, l.lookup x = some b → (x, b) ∈ l
  | [], h => by cases h
  | (y, c) :: l, h => by
    unfold List.lookup at h
    split at h
    · rename_i e
      cases h
      rw [eq_of_beq e]
      exact List.mem_cons_self ..
    · exact List.mem_cons_of_mem _ (lookup_mem h)
theorem snd_ty (o : TxOk N D k W X Γ) {e : Expr} {t : Ty} (h : trTy Γ e = some t) : PE X e (tC (Mt.tyV N t)) ∧ tyOk N t ∧ isStar e = false := by
  cases e with
  | Name x p =>
    unfold trTy at h
    dsimp only at h
    by_cases hg : gl Γ.sc x = true ∧ ¬ x = ("__debug__" : Str)
    · rw [if_pos hg] at h
      obtain ⟨hg, hd⟩ := hg
      have hdb : (x == ("__debug__" : Str)) = false := beq_eq_false_iff_ne.mpr hd
      cases w : Γ.gc x with
      | some c =>
        rw [w] at h
        cases h
        obtain ⟨h1, h2⟩ := o.gcO x c w
        exact ⟨pe_glob (o.gl hg) h1 rfl hdb, h2, rfl⟩
      | none =>
        rw [w] at h
        dsimp only at h
        by_cases hn : Γ.nb x = true ∧ ¬ x = ("__name__" : Str)
        · rw [if_pos hn] at h
          obtain ⟨n, e1, e2⟩ := tyOf_ok _ (lookup_mem h)
          have e1 : tyNm t = some n := e1
          have e2 : bootBuiltins x = some (.type n) := e2
          refine ⟨?_, ?_, rfl⟩
          · have : Mt.tyV N t = .ty n := by cases t <;> cases e1 <;> rfl
            rw [this]
            exact pe_bltn (o.gl hg) (o.nbO x hn.1) e2 rfl hn.2 hdb
          · cases t <;> first | trivial | cases e1
        · rw [if_neg hn] at h
          cases h
    · rw [if_neg hg] at h
      cases h
  | _ => cases h
theorem bms_ok : ∀ q ∈ bms, q.1 = bmN q.2.2 ∧ ∃ n, q.2.1 = n ∧ (n = 0 ∨ n = 1) ∧ (n = 0 ↔ q.2.2 = .pop) := by
  intro q hq
  simp only [bms, List.mem_cons, List.not_mem_nil, or_false] at hq
  rcases hq with rfl | rfl | rfl <;> exact ⟨rfl, _, rfl, by decide, by decide⟩
theorem bm_slot (b : Bm) : Slot "list" (bmN b) (bmI b) := by
  cases b
  · exact F.slot_list_append
  · exact F.slot_list_extend
  · exact F.slot_list_pop
theorem bm_ty (b : Bm) : typeOf (.builtin (bmI b)) = pure (.type "method_descriptor") := by
  cases b <;> rfl
theorem snd_bm (sh : Shp r) (se : SndE N D k r) (o : TxOk N D k W X Γ) {m : Str} {a : Expr} {ap p : Pos} {args : List Expr} {b : Bm} {ca : C F} {cs : List (C F)} (hs : isSuper a = false) (hl : ap.endLine = p.line) (hf : args.length + ([] : List Keyword).length < 29) (h1 : bmOf m args.length bms = some b) (ha : r Γ a = some ca) (h2 : trL r Γ args = some cs) :
    PE X (.Call (.Attribute a m ap) args [] p) (tOf N W (eE D k (.bm b ca cs))) := by
  obtain ⟨q1, n, q2, q3, q4⟩ := bms_ok _ (bmOf_mem h1)
  have q1 : m = bmN b := q1
  subst q1
  have hline : (ap.endLine == p.line) = true := beq_iff_eq.mpr hl
  cases args with
  | nil =>
    cases h2
    exact (pe_tbm0 (pm := b) o.hK (bm_slot b) (bm_ty b) (se _ _ _ o _ _ ha) (base_ok hs) hline)
  | cons e es =>
    have st := trL_star sh h2
    have st' := st
    simp only [List.all_cons, Bool.and_eq_true, Bool.not_eq_true'] at st'
    refine pe_tbm1 (pm := b) o.hK (bm_slot b) (bm_ty b) (se _ _ _ o _ _ ha) (snd_L sh se o h2) (base_ok hs) ?_ hline (star_cons st'.1) (star_any st'.2)
    rw [star_all st]
    simp only [Bool.true_and, Bool.and_eq_true, decide_eq_true_eq, List.length_cons, List.length_nil, List.isEmpty_nil, if_true] at hf ⊢
    exact ⟨rfl, by omega⟩
end
end Mt

set_option maxHeartbeats 8000000
/-! Mt18: calls, targets, what is walked, comprehensions. -/
namespace Mt
open PySem PySem.Spec PyProof.Rows L2
section
variable {F : Type} {N : Nm} {D : Pd F} {k : Nat} {W : WX} {X : Cx} {Γ : Tx F} {r : Tx F → Expr → Option (C F)}
theorem pl_ok {p : Pos} {env : PySem.Env} {args : List Expr} {kws : List Keyword} (h1 : args.all (fun a => !isStar a) = true) (h2 : kws.all (fun k => k.arg.isSome) = true) : ((backTo p (starEach args env)).any (·.1) || (backToKw p (keywordEach kws env)).any (·.1.isNone)) = false := by
  rw [star_any h1, kw_any h2]
  rfl
theorem snd_fn (sh : Shp r) (se : SndE N D k r) (o : TxOk N D k W X Γ) {x : Str} {q p : Pos} {args : List Expr} {kws : List Keyword} {fn : F} {cs kcs : List (C F)} {ks : List Nat} (hg : gl Γ.sc x = true) (hd : x ≠ ("__debug__" : Str)) (hf : Γ.gf x = some fn) (h1 : trL r Γ args = some cs) (h2 : trK r Γ kws = some (ks, kcs)) :
    PE X (.Call (.Name x q) args kws p) (tOf N W (eE D k (.call fn cs ks kcs))) := by
  obtain ⟨k1, k2, k3, k4, k5⟩ := snd_K se o h2
  have hdb : (x == ("__debug__" : Str)) = false := beq_eq_false_iff_ne.mpr hd
  have st := trL_star sh h1
  cases args with
  | nil =>
    cases h1
    exact pe_tcall0 o.ok o.hK (o.FG k (Nat.le_refl _) fn) o.room o.gd o.pass (o.gl hg) (o.gfO x fn hf) (fun _ _ _ _ e => (evs_len e).trans k5) k1 (kw_all k3) (kw_names.trans k2) hdb (pl_ok rfl k3)
  | cons a es =>
    have st' := st
    simp only [List.all_cons, Bool.and_eq_true, Bool.not_eq_true'] at st'
    exact pe_tcall (n := cs.length) o.ok o.hK (o.FG k (Nat.le_refl _) fn) o.room o.gd o.pass (o.gl hg) (o.gfO x fn hf) (fun _ _ _ _ e => evs_len e) (fun _ _ _ _ e => (evs_len e).trans k5) (snd_L sh se o h1) k1 (kw_all k3) (kw_names.trans k2) hdb (star_cons st'.1) (pl_ok st k3)
theorem snd_make {k' : Nat} (hk : k = k' + 1) (sh : Shp r) (se : SndE N D k r) (o : TxOk N D k W X Γ) {x : Str} {q p : Pos} {args : List Expr} {kws : List Keyword} {c : Nat} {cs kcs : List (C F)} {ks : List Nat} (hg : gl Γ.sc x = true) (hd : x ≠ ("__debug__" : Str)) (hf : Γ.gc x = some c) (hi : Γ.gi c = true) (h1 : trL r Γ args = some cs) (h2 : trK r Γ kws = some (ks, kcs)) :
    PE X (.Call (.Name x q) args kws p) (tOf N W (eE D k (.make c cs ks kcs))) := by
  subst hk
  obtain ⟨f, hf'⟩ := o.giO c hi
  obtain ⟨k1, k2, k3, k4, k5⟩ := snd_K se o h2
  have hdb : (x == ("__debug__" : Str)) = false := beq_eq_false_iff_ne.mpr hd
  have st := trL_star sh h1
  cases args with
  | nil =>
    cases h1
    exact pe_tmake0 o.ok o.hK hf' (o.FG k' (Nat.le_succ _) f) o.room o.gd o.pass (o.gl hg) (o.gcO x c hf).1 (fun _ _ _ _ e => (evs_len e).trans k5) k1 (kw_all k3) (kw_names.trans k2) hdb (pl_ok rfl k3)
  | cons a es =>
    have st' := st
    simp only [List.all_cons, Bool.and_eq_true, Bool.not_eq_true'] at st'
    exact pe_tmake (n := cs.length) o.ok o.hK hf' (o.FG k' (Nat.le_succ _) f) o.room o.gd o.pass (o.gl hg) (o.gcO x c hf).1 (fun _ _ _ _ e => evs_len e) (fun _ _ _ _ e => (evs_len e).trans k5) (snd_L sh se o h1) k1 (kw_all k3) (kw_names.trans k2) hdb (star_cons st'.1) (pl_ok st k3)
theorem snd_meth (sh : Shp r) (se : SndE N D k r) (o : TxOk N D k W X Γ) {m : Str} {a : Expr} {ap p : Pos} {args : List Expr} {kws : List Keyword} {mi : Nat} {ca : C F} {cs kcs : List (C F)} {ks : List Nat} (hs : isSuper a = false) (hl : ap.endLine = p.line) (hf : args.length + kws.length < 29) (hm : Γ.km m = some mi) (ha : r Γ a = some ca) (h1 : trL r Γ args = some cs) (h2 : trK r Γ kws = some (ks, kcs)) :
    PE X (.Call (.Attribute a m ap) args kws p) (tOf N W (eE D k (.meth ca mi cs ks kcs))) := by
  obtain ⟨k1, k2, k3, k4, k5⟩ := snd_K se o h2
  have e := o.kmO m mi hm
  subst e
  have st := trL_star sh h1
  have hline : (ap.endLine == p.line) = true := beq_iff_eq.mpr hl
  have ht := meth_eval (o := a) (m := D.mnm mi) (apos := ap) (pos := p) (env := X.env) (base_ok hs) (few_ok st k3 hf) hline
  cases args with
  | nil =>
    cases h1
    exact pe_tmeth0 (m := mi) o.ok o.hK (o.FG k (Nat.le_refl _)) o.room o.gd o.pass (se _ _ _ o _ _ ha) (fun _ _ _ _ e => (evs_len e).trans k5) k1 (kw_all k3) (kw_names.trans k2) (pl_ok rfl k3) ht
  | cons b es =>
    have st' := st
    simp only [List.all_cons, Bool.and_eq_true, Bool.not_eq_true'] at st'
    exact pe_tmeth (m := mi) (n := cs.length) o.ok o.hK (o.FG k (Nat.le_refl _)) o.room o.gd o.pass (se _ _ _ o _ _ ha) (fun _ _ _ _ e => evs_len e) (fun _ _ _ _ e => (evs_len e).trans k5) (snd_L sh se o h1) k1 (kw_all k3) (kw_names.trans k2) (star_cons st'.1) (pl_ok st k3) ht
theorem snd_call {k' : Nat} (hk : k = k' + 1) (sh : Shp r) (se : SndE N D k r) (o : TxOk N D k W X Γ) {f : Expr} {args : List Expr} {kws : List Keyword} {p : Pos} {c : C F} (h : trCall r Γ f args kws p = some c) : PE X (.Call f args kws p) (tOf N W (eE D k c)) := by
  cases f with
  | Name x q =>
    unfold trCall at h
    dsimp only at h
    by_cases hg : gl Γ.sc x = true ∧ ¬ x = ("__debug__" : Str)
    · rw [if_pos hg] at h
      obtain ⟨hg, hd⟩ := hg
      cases w1 : Γ.gf x with
      | some fn =>
        rw [w1] at h
        cases w2 : trL r Γ args with
        | none => rw [w2] at h; cases h
        | some cs =>
          cases w3 : trK r Γ kws with
          | none => rw [w2, w3] at h; cases h
          | some pk =>
            obtain ⟨ks, kcs⟩ := pk
            rw [w2, w3] at h
            cases h
            exact snd_fn sh se o hg hd w1 w2 w3
      | none =>
        rw [w1] at h
        dsimp only at h
        cases w2 : Γ.gc x with
        | some cl =>
          rw [w2] at h
          dsimp only at h
          by_cases hi : Γ.gi cl = true
          · rw [if_neg (fun z => z hi)] at h
            cases w3 : trL r Γ args with
            | none => rw [w3] at h; cases h
            | some cs =>
              cases w4 : trK r Γ kws with
              | none => rw [w3, w4] at h; cases h
              | some pk =>
                obtain ⟨ks, kcs⟩ := pk
                rw [w3, w4] at h
                cases h
                exact snd_make hk sh se o hg hd w2 hi w3 w4
          · rw [if_pos hi] at h
            cases h
        | none =>
          rw [w2] at h
          dsimp only at h
          by_cases hn : Γ.nb x = true ∧ ¬ x = ("__name__" : Str)
          · rw [if_pos hn] at h
            cases kws with
            | cons _ _ => cases h
            | nil =>
              dsimp only at h
              by_cases hx : x = ("isinstance" : Str)
              · rw [if_pos hx] at h
                match args, h with
                | [a, ty], h =>
                  dsimp only at h
                  cases w3 : r Γ a with
                  | none => rw [w3] at h; cases h
                  | some ca =>
                    cases w4 : trTy Γ ty with
                    | none => rw [w3, w4] at h; cases h
                    | some t =>
                      rw [w3, w4] at h
                      cases h
                      obtain ⟨h1, h2, h3⟩ := snd_ty o w4
                      subst hx
                      exact pe_tisi h2 o.hK (o.gl hg) (o.nbO _ hn.1) (se _ _ _ o _ _ w3) h1 (star_cons (sh _ _ _ w3).1) (star_cons h3)
                | [], h => cases h
                | [_], h => cases h
                | _ :: _ :: _ :: _, h => cases h
              · rw [if_neg hx] at h
                cases w3 : primOf x args.length prims with
                | none => rw [w3] at h; cases h
                | some pr =>
                  cases w4 : trL r Γ args with
                  | none => rw [w3, w4] at h; cases h
                  | some cs =>
                    rw [w3, w4] at h
                    cases h
                    exact snd_prim sh se o hg hn.1 hn.2 hd w3 w4
          · rw [if_neg hn] at h
            cases h
    · rw [if_neg hg] at h
      cases h
  | Attribute a m ap =>
    unfold trCall at h
    dsimp only at h
    by_cases hc : isSuper a = true ∨ ¬ ap.endLine = p.line ∨ ¬ args.length + kws.length < 29
    · rw [if_pos hc] at h
      cases h
    · rw [if_neg hc] at h
      have hs : isSuper a = false := by
        cases q : isSuper a with
        | true => exact (hc (.inl q)).elim
        | false => rfl
      have hl : ap.endLine = p.line := Classical.byContradiction fun z => hc (.inr (.inl z))
      have hf : args.length + kws.length < 29 := Classical.byContradiction fun z => hc (.inr (.inr z))
      cases w1 : Γ.km m with
      | some mi =>
        rw [w1] at h
        dsimp only at h
        cases w2 : r Γ a with
        | none => rw [w2] at h; cases h
        | some ca =>
          cases w3 : trL r Γ args with
          | none => rw [w2, w3] at h; cases h
          | some cs =>
            cases w4 : trK r Γ kws with
            | none => rw [w2, w3, w4] at h; cases h
            | some pk =>
              obtain ⟨ks, kcs⟩ := pk
              rw [w2, w3, w4] at h
              cases h
              exact snd_meth sh se o hs hl hf w1 w2 w3 w4
      | none =>
        rw [w1] at h
        dsimp only at h
        cases kws with
        | cons _ _ => cases h
        | nil =>
          dsimp only at h
          cases w2 : bmOf m args.length bms with
          | none => rw [w2] at h; cases h
          | some b =>
            cases w3 : r Γ a with
            | none => rw [w2, w3] at h; cases h
            | some ca =>
              cases w4 : trL r Γ args with
              | none => rw [w2, w3, w4] at h; cases h
              | some cs =>
                rw [w2, w3, w4] at h
                cases h
                exact snd_bm sh se o hs hl hf w2 w3 w4
  | _ => cases h
/-! ### targets -/
theorem st_ok (o : TxOk N D k W X Γ) {x : Str} (h : stOk Γ x = true) : L2.Loc X.env.scope x ∧ (X.fn x = true ∨ X.env.scope.names.lookup x = some .local) := by
  unfold stOk at h
  rw [o.sc]
  unfold L2.Loc
  cases w : Γ.sc.names.lookup x with
  | none => rw [w] at h; cases h
  | some kd =>
    rw [w] at h
    cases kd with
    | «local» => exact ⟨.inl rfl, .inr rfl⟩
    | cell => exact ⟨.inr rfl, .inl (o.fn x h)⟩
    | _ => cases h
mutual
theorem snd_G (sh : Shp r) (se : SndE N D k r) (o : TxOk N D k W X Γ) {ns : Nat → Bool} : ∀ (n : Nat) (e : Expr) (c : C F) (sl : List Nat), trG r Γ n e = some (c, sl) → (∀ i ∈ sl, ns i = true) → PG X e (gOf N W ns (eA D k c)) ∧ isStar e = false
  | 0, _, _, _, h, _ => by cases h
  | n + 1, .Name x p, c, sl, h, hn => by
    unfold trG at h
    by_cases hs : stOk Γ x = true
    · rw [if_pos hs] at h
      cases w : ixOf x Γ.nms with
      | none => rw [w] at h; cases h
      | some i =>
        rw [w] at h
        cases h
        obtain ⟨h1, h2⟩ := st_ok o hs
        exact ⟨pg_tname (by rw [o.nms]; exact o.nd) (by rw [o.nms]; exact ixOf_some w) h1 h2 (hn i (by simp)), rfl⟩
    · rw [if_neg hs] at h
      cases h
  | n + 1, .Tuple es kk p, c, sl, h, hn => by
    unfold trG at h
    cases w : trG.trGs r Γ n es with
    | none => rw [w] at h; cases h
    | some pp =>
      obtain ⟨cs, ss⟩ := pp
      rw [w] at h
      cases h
      obtain ⟨q1, q2, q3, q4⟩ := snd_Gs sh se o n es cs ss w hn
      exact ⟨pg_ttup (n := cs.length) o.hK o.calm q1 q3 q4, rfl⟩
  | n + 1, .Subscript a i p, c, sl, h, hn => by
    unfold trG at h
    by_cases hs : isSlice i = true
    · rw [if_pos hs] at h; cases h
    · rw [if_neg hs] at h
      cases w1 : r Γ a with
      | none => rw [w1] at h; cases h
      | some ca =>
        cases w2 : r Γ i with
        | none => rw [w1, w2] at h; cases h
        | some ci =>
          rw [w1, w2] at h
          cases h
          exact ⟨pg_tsub o.hK (se _ _ _ o _ _ w1) (se _ _ _ o _ _ w2) (asub_ok (sh _ _ _ w2).2.2), rfl⟩
  | n + 1, .Attribute a f p, c, sl, h, hn => by
    unfold trG at h
    cases w1 : r Γ a with
    | none => rw [w1] at h; cases h
    | some ca =>
      cases w2 : Γ.kf f with
      | none => rw [w1, w2] at h; cases h
      | some i =>
        rw [w1, w2] at h
        cases h
        obtain ⟨e1, e2⟩ := o.kfO f i w2
        subst e1
        exact ⟨pg_tfld o.hK e2 (se _ _ _ o _ _ w1), rfl⟩
  | n + 1, .BoolOp _ _ _, _, _, h, _ => by cases h
  | n + 1, .NamedExpr _ _ _, _, _, h, _ => by cases h
  | n + 1, .BinOp _ _ _ _, _, _, h, _ => by cases h
  | n + 1, .UnaryOp _ _ _, _, _, h, _ => by cases h
  | n + 1, .Lambda _ _ _ _, _, _, h, _ => by cases h
  | n + 1, .IfExp _ _ _ _, _, _, h, _ => by cases h
  | n + 1, .Dict _ _ _, _, _, h, _ => by cases h
  | n + 1, .Set _ _ _, _, _, h, _ => by cases h
  | n + 1, .ListComp _ _ _ _, _, _, h, _ => by cases h
  | n + 1, .SetComp _ _ _ _, _, _, h, _ => by cases h
  | n + 1, .DictComp _ _ _ _ _, _, _, h, _ => by cases h
  | n + 1, .GeneratorExp _ _ _ _, _, _, h, _ => by cases h
  | n + 1, .Await _ _, _, _, h, _ => by cases h
  | n + 1, .Yield _ _, _, _, h, _ => by cases h
  | n + 1, .YieldFrom _ _, _, _, h, _ => by cases h
  | n + 1, .Compare _ _ _ _, _, _, h, _ => by cases h
  | n + 1, .Call _ _ _ _, _, _, h, _ => by cases h
  | n + 1, .FormattedValue _ _ _ _, _, _, h, _ => by cases h
  | n + 1, .JoinedStr _ _, _, _, h, _ => by cases h
  | n + 1, .Constant _ _ _, _, _, h, _ => by cases h
  | n + 1, .Starred _ _, _, _, h, _ => by cases h
  | n + 1, .List _ _, _, _, h, _ => by cases h
  | n + 1, .Slice _ _ _ _, _, _, h, _ => by cases h
theorem snd_Gs (sh : Shp r) (se : SndE N D k r) (o : TxOk N D k W X Γ) {ns : Nat → Bool} : ∀ (n : Nat) (es : List Expr) (cs : List (C F)) (sl : List Nat), trG.trGs r Γ n es = some (cs, sl) → (∀ i ∈ sl, ns i = true) →
    PGs X es (gsOf N W ns (eAs D k cs)) ∧ cs.length = es.length ∧ (assignEach es X.env).length = cs.length ∧ (assignEach es X.env).findIdx? (·.1) = none
  | _, [], cs, sl, h, _ => by
    have h : some (([] : List (C F)), ([] : List Nat)) = some (cs, sl) := by
      unfold trG.trGs at h
      exact h
    cases h
    refine ⟨?_, rfl, rfl, rfl⟩
    refine (pgs_tnil (N := N) (W := W) (ns := ns)).imp fun vs σ H Q ⟨L, ρ, h, σT, ts, S, E, q, o⟩ => ⟨L, ρ, h, σT, ts, S, E, q, ?_⟩
    cases ts <;> exact o
  | 0, _ :: _, _, _, h, _ => by cases h
  | n + 1, e :: es, cs, sl, h, hn => by
    unfold trG.trGs at h
    cases w1 : trG r Γ n e with
    | none => rw [w1] at h; cases h
    | some p1 =>
      obtain ⟨c, s1⟩ := p1
      cases w2 : trG.trGs r Γ n es with
      | none => rw [w1, w2] at h; cases h
      | some p2 =>
        obtain ⟨cr, s2⟩ := p2
        rw [w1, w2] at h
        cases h
        obtain ⟨q1, q2⟩ := snd_G sh se o n e c s1 w1 fun i hi => hn i (List.mem_append_left _ hi)
        obtain ⟨g1, g2, g3, g4⟩ := snd_Gs sh se o n es cr s2 w2 fun i hi => hn i (List.mem_append_right _ hi)
        have ha : assignEach (e :: es) X.env = (false, assign e X.env) :: assignEach es X.env := by
          cases e <;> first | rfl | cases q2
        refine ⟨?_, congrArg Nat.succ g2, ?_, ?_⟩
        · refine (pgs_tcons q1 g1 (by rw [ha] <;> rfl)).imp fun vs σ H Q ⟨L, ρ, h, σT, ts, S, E, q, o⟩ => ⟨L, ρ, h, σT, ts, S, E, q, ?_⟩
          cases ts <;> exact o
        · rw [ha]
          exact congrArg Nat.succ g3
        · rw [ha, List.findIdx?_cons]
          rw [g4]
          rfl
end
end
end Mt

set_option maxHeartbeats 8000000
/-! Mt19: what is walked, comprehensions, tests; the whole. -/
namespace Mt
open PySem PySem.Spec PyProof.Rows L2
section
variable {F : Type} {N : Nm} {D : Pd F} {k : Nat} {W : WX} {X : Cx} {Γ : Tx F} {r : Tx F → Expr → Option (C F)}
theorem snd_seq (sh : Shp r) (se : SndE N D k r) (o : TxOk N D k W X Γ) {tg it : Expr} {c : C F} (h : (r Γ it).map .iSeq = some c) : PI X tg it (tOfI N W (eI D k c)) ∧ isSet it = false := by
  cases w : r Γ it with
  | none => rw [w] at h; cases h
  | some ci =>
    rw [w] at h
    cases h
    exact ⟨pi_tseq o.hK (se _ _ _ o _ _ w), (sh _ _ _ w).2.1⟩
theorem snd_I (sh : Shp r) (se : SndE N D k r) (o : TxOk N D k W X Γ) {tg it : Expr} {c : C F} (h : trI r Γ tg it = some c) : PI X tg it (tOfI N W (eI D k c)) ∧ isSet it = false := by
  unfold trI at h
  split at h
  · rename_i x q args p
    by_cases hg : gl Γ.sc x = true ∧ Γ.nb x = true
    · rw [if_pos hg] at h
      by_cases hx : x = ("range" : Str)
      · rw [if_pos hx] at h
        subst hx
        match args, h with
        | [a], h =>
          dsimp only at h
          cases w : r Γ a with
          | none => rw [w] at h; cases h
          | some ca =>
            rw [w] at h
            cases h
            exact ⟨pi_trng1 (o.gl hg.1) (o.nbO _ hg.2) (se _ _ _ o _ _ w) (star_cons (sh _ _ _ w).1), rfl⟩
        | [a, b], h =>
          dsimp only at h
          cases w : r Γ a with
          | none => rw [w] at h; cases h
          | some ca =>
            cases w2 : r Γ b with
            | none => rw [w, w2] at h; cases h
            | some cb =>
              rw [w, w2] at h
              cases h
              exact ⟨pi_trng2 (o.gl hg.1) (o.nbO _ hg.2) (se _ _ _ o _ _ w) (se _ _ _ o _ _ w2) (star_cons (sh _ _ _ w).1) (star_cons (sh _ _ _ w2).1), rfl⟩
        | [], h => cases h
        | _ :: _ :: _ :: _, h => cases h
      · rw [if_neg hx] at h
        split at h
        · by_cases hx2 : x = ("enumerate" : Str)
          · rw [if_pos hx2] at h
            subst hx2
            match args, h with
            | [a], h =>
              dsimp only at h
              cases w : r Γ a with
              | none => rw [w] at h; cases h
              | some ca =>
                rw [w] at h
                cases h
                exact ⟨pi_tenum o.hK (o.gl hg.1) (o.nbO _ hg.2) (se _ _ _ o _ _ w) (star_cons (sh _ _ _ w).1), rfl⟩
            | [], h => cases h
            | _ :: _ :: _, h => cases h
          · rw [if_neg hx2] at h
            by_cases hx3 : x = ("zip" : Str)
            · rw [if_pos hx3] at h
              subst hx3
              match args, h with
              | [a, b], h =>
                dsimp only at h
                cases w : r Γ a with
                | none => rw [w] at h; cases h
                | some ca =>
                  cases w2 : r Γ b with
                  | none => rw [w, w2] at h; cases h
                  | some cb =>
                    rw [w, w2] at h
                    cases h
                    exact ⟨pi_tzip o.hK (o.gl hg.1) (o.nbO _ hg.2) (se _ _ _ o _ _ w) (se _ _ _ o _ _ w2) (star_cons (sh _ _ _ w).1) (star_cons (sh _ _ _ w2).1), rfl⟩
              | [], h => cases h
              | [_], h => cases h
              | _ :: _ :: _ :: _, h => cases h
            · rw [if_neg hx3] at h
              exact snd_seq sh se o h
        · exact snd_seq sh se o h
    · rw [if_neg hg] at h
      exact snd_seq sh se o h
  · exact snd_seq sh se o h
/-! ### tests -/
theorem truT_keeps {x : T} {h h' : Sto} {b : Bool} (e : truT x h = .ok b h') : h' = h ∧ truT x h = .ok b h := by
  cases x with
  | str z =>
    have e' : (if z.length ≤ sizeLine then ret (z.length != 0) else no : M Bool) h = .ok b h' := e
    by_cases c : z.length ≤ sizeLine
    · rw [if_pos c] at e'
      cases e'
      exact ⟨rfl, e⟩
    · rw [if_neg c] at e'
      cases e'
  | _ => first
    | (cases e; exact ⟨rfl, rfl⟩)
    | cases e
theorem tru_again (x : T) (A : M Bool) : bnd (truT x) (fun t => if t then A else truT x) = bnd (truT x) fun t => if t then A else ret false := by
  funext h
  unfold bnd
  cases e : truT x h with
  | no => rfl
  | ex _ _ => rfl
  | ok t h' =>
    obtain ⟨e1, e2⟩ := truT_keeps e
    subst e1
    cases t with
    | true => rfl
    | false => exact e2
theorem tru_againO (x : T) (A : M Bool) : bnd (truT x) (fun t => if t then truT x else A) = bnd (truT x) fun t => if t then ret true else A := by
  funext h
  unfold bnd
  cases e : truT x h with
  | no => rfl
  | ex _ _ => rfl
  | ok t h' =>
    obtain ⟨e1, e2⟩ := truT_keeps e
    subst e1
    cases t with
    | false => rfl
    | true => exact e2
section
variable {P : Prog F} {G : F → List T → M T} {mk : Nat → Nat → List Nat → List T → M T} {σ : Env} {a b c : C F}
theorem evT_not : evT P G mk (.not a) σ = bnd (evT P G mk a σ) fun t => ret (!t) := by
  show bnd (bnd (ev P G mk a σ) fun x => bnd (truT x) fun b => ret (.bl (!b))) truT = bnd (bnd (ev P G mk a σ) truT) _
  rw [bnd_assoc, bnd_assoc]
  congr 1
  funext x
  rw [bnd_assoc]
  rfl
theorem evT_and : evT P G mk (.and a b) σ = bnd (evT P G mk a σ) fun t => if t then evT P G mk b σ else ret false := by
  show bnd (bnd (ev P G mk a σ) fun x => bnd (truT x) fun t => if t then ev P G mk b σ else ret x) truT = bnd (bnd (ev P G mk a σ) truT) _
  rw [bnd_assoc, bnd_assoc]
  congr 1
  funext x
  rw [bnd_assoc, ← tru_again]
  congr 1
  funext t
  cases t <;> rfl
theorem evT_or : evT P G mk (.or a b) σ = bnd (evT P G mk a σ) fun t => if t then ret true else evT P G mk b σ := by
  show bnd (bnd (ev P G mk a σ) fun x => bnd (truT x) fun t => if t then ret x else ev P G mk b σ) truT = bnd (bnd (ev P G mk a σ) truT) _
  rw [bnd_assoc, bnd_assoc]
  congr 1
  funext x
  rw [bnd_assoc, ← tru_againO]
  congr 1
  funext t
  cases t <;> rfl
theorem evT_ite : evT P G mk (.ite c a b) σ = bnd (evT P G mk c σ) fun t => if t then evT P G mk a σ else evT P G mk b σ := by
  show bnd (bnd (bnd (ev P G mk c σ) truT) fun t => if t then ev P G mk a σ else ev P G mk b σ) truT = bnd (bnd (ev P G mk c σ) truT) _
  rw [bnd_assoc]
  congr 1
  funext t
  cases t <;> rfl
theorem evT_cmp {op : Cm} : evT P G mk (.cmp op a b) σ = bnd (ev P G mk a σ) fun x => bnd (ev P G mk b σ) fun y => ofO (cmpT op x y) := by
  show bnd (bnd (ev P G mk a σ) fun x => bnd (ev P G mk b σ) fun y => bnd (ofO (cmpT op x y)) fun b => ret (.bl b)) truT = _
  rw [bnd_assoc]
  congr 1
  funext x
  rw [bnd_assoc]
  congr 1
  funext y
  rw [bnd_assoc]
  exact bnd_id _
end
theorem PTo {X : Cx} {e : Expr} {E E' : Env → M Bool} (p : PT X e (tOfB N W E)) (h : ∀ σ, E' σ = E σ) : PT X e (tOfB N W E') := by
  rw [funext h]
  exact p
theorem PWo {X : Cx} {e : Expr} {E E' : Env → M Bool} (p : PW X e (tOfB N W E)) (h : ∀ σ, E' σ = E σ) : PW X e (tOfB N W E') := by
  rw [funext h]
  exact p
end
end Mt

set_option maxHeartbeats 8000000
/-! Mt20: chains as tests; the whole for expressions. -/
namespace Mt
open PySem PySem.Spec PyProof.Rows L2
section
variable {N : Nm} {X : Cx} {W : WX} {a b c d e : Expr} {Ea Eb Ec Ed : Env → M T} {pos : Pos}
theorem pt_tite {Bc Ba Bb : Env → M Bool} (hc : PT X c (tOfB N W Bc)) (ha : PT X a (tOfB N W Ba)) (hb : PT X b (tOfB N W Bb)) : PT X (.IfExp c a b pos) (tOfB N W fun σ => bnd (Bc σ) fun t => if t then Ba σ else Bb σ) := by
  refine ⟨fun pins s σ H Q I ⟨L, ρ, h, σT, S, E, o⟩ => ?_⟩
  refine isTrue_IfExp (thn (hc.run pins s σ H _ I (ofBndB (Q' := fun x H1 => if x = true then tOfB N W Ba σ H1 Q else tOfB N W Bb σ H1 Q) S E o fun x H1 ρ1 h1 s1 S1 E1 o1 => by
    cases x with
    | true => exact ⟨L, ρ1, h1, σT, S1, E1, o1⟩
    | false => exact ⟨L, ρ1, h1, σT, S1, E1, o1⟩)) fun t s1 ⟨H1, I1, q⟩ => ?_)
  cases t with
  | true => exact ha.run pins s1 σ H1 Q I1 q
  | false => exact hb.run pins s1 σ H1 Q I1 q
theorem pt_tcmp2 {op op' : Cm} (ho : OpR X (compareOp (cmO op)) (r2 N (cmpM op))) (ho' : OpR X (compareOp (cmO op')) (r2 N (cmpM op'))) (ha : PE X a (tOf N W Ea)) (hb : PE X b (tOf N W Eb)) (hc : PE X c (tOf N W Ec)) (hm : lastMarks [cmO op, cmO op'] [b, c] = false) :
    PT X (.Compare a [cmO op, cmO op'] [b, c] pos) (tOfB N W fun σ => bnd (Ea σ) fun x => bnd (Eb σ) fun y => bnd (ofO (cmpT op x y)) fun t => if t then bnd (Ec σ) fun z => ofO (cmpT op' y z) else ret false) := by
  refine ⟨fun pins s σ H Q I ⟨L, ρ, h, σT, S, E, o⟩ => ?_⟩
  refine isTrue_chain (thn (ha.run pins s σ H _ I (ofNxt S E o)) fun v s1 ⟨x, H1, I1, rx, ρ1, t, h1, st1, S1, E1, r1, o1⟩ =>
    test_link (thn (hb.run pins s1 σ H1 _ I1 (ofNxt S1 E1 o1)) fun w s2 ⟨y, H2, I2, ry, ρ2, u, h2, st2, S2, E2, r2, o2⟩ => ?_)) hm
  obtain ⟨k, ek, o2⟩ := o2.bndO
  refine thn (cmp_val ho I2 rx ry S2 (r1.stp st2) r2 ek) fun z s3 ⟨ez, H3, ρ3, I3, st3, S3⟩ => ?_
  subst ez
  refine wpAny_truthy_bool ?_
  have E3 := E2.stp st3
  have o3 := o2.step st3
  cases k with
  | false => exact ite_ff ⟨H3, I3, o3.ret S3 rfl⟩
  | true =>
    refine ite_tt (test_last (thn (hc.run pins s3 σ H3 _ I3 (ofNxt S3 E3 o3)) fun w' s4 ⟨z, H4, I4, rz, ρ4, w, h4, st4, S4, E4, r4, o4⟩ => ?_))
    obtain ⟨k', ek', o4⟩ := o4.ofO
    refine thn (cmp_val ho' I4 ry rz S4 ((r2.stp st3).stp st4) r4 ek') fun z' s5 ⟨ez', H5, ρ5, I5, st5, S5⟩ => ?_
    subst ez'
    exact wpAny_truthy_bool ⟨H5, I5, (o4.step st5).ret S5 rfl⟩
theorem pt_tcmp3 {op op' op'' : Cm} (ho : OpR X (compareOp (cmO op)) (r2 N (cmpM op))) (ho' : OpR X (compareOp (cmO op')) (r2 N (cmpM op'))) (ho'' : OpR X (compareOp (cmO op'')) (r2 N (cmpM op''))) (ha : PE X a (tOf N W Ea)) (hb : PE X b (tOf N W Eb)) (hc : PE X c (tOf N W Ec)) (hd : PE X d (tOf N W Ed))
    (hm : lastMarks [cmO op, cmO op', cmO op''] [b, c, d] = false) : PT X (.Compare a [cmO op, cmO op', cmO op''] [b, c, d] pos) (tOfB N W fun σ => bnd (Ea σ) fun x => bnd (Eb σ) fun y => bnd (ofO (cmpT op x y)) fun t =>
      if t then bnd (Ec σ) fun z => bnd (ofO (cmpT op' y z)) fun u => if u then bnd (Ed σ) fun w => ofO (cmpT op'' z w) else ret false else ret false) := by
  refine ⟨fun pins s σ H Q I ⟨L, ρ, h, σT, S, E, o⟩ => ?_⟩
  refine isTrue_chain (thn (ha.run pins s σ H _ I (ofNxt S E o)) fun v s1 ⟨x, H1, I1, rx, ρ1, t, h1, st1, S1, E1, r1, o1⟩ =>
    test_link (thn (hb.run pins s1 σ H1 _ I1 (ofNxt S1 E1 o1)) fun w s2 ⟨y, H2, I2, ry, ρ2, u, h2, st2, S2, E2, r2, o2⟩ => ?_)) hm
  obtain ⟨k, ek, o2⟩ := o2.bndO
  refine thn (cmp_val ho I2 rx ry S2 (r1.stp st2) r2 ek) fun z s3 ⟨ez, H3, ρ3, I3, st3, S3⟩ => ?_
  subst ez
  refine wpAny_truthy_bool ?_
  have E3 := E2.stp st3
  have o3 := o2.step st3
  cases k with
  | false => exact ite_ff ⟨H3, I3, o3.ret S3 rfl⟩
  | true =>
    refine ite_tt (test_link (thn (hc.run pins s3 σ H3 _ I3 (ofNxt S3 E3 o3)) fun w' s4 ⟨z, H4, I4, rz, ρ4, w, h4, st4, S4, E4, r4, o4⟩ => ?_))
    obtain ⟨k', ek', o4⟩ := o4.bndO
    refine thn (cmp_val ho' I4 ry rz S4 ((r2.stp st3).stp st4) r4 ek') fun z' s5 ⟨ez', H5, ρ5, I5, st5, S5⟩ => ?_
    subst ez'
    refine wpAny_truthy_bool ?_
    have o5 := o4.step st5
    cases k' with
    | false => exact ite_ff ⟨H5, I5, o5.ret S5 rfl⟩
    | true =>
      refine ite_tt (test_last (thn (hd.run pins s5 σ H5 _ I5 (ofNxt S5 (E4.stp st5) o5)) fun w6 s6 ⟨x6, H6, I6, rx6, ρ6, t6, h6, st6, S6, E6, r6, o6⟩ => ?_))
      obtain ⟨k6, ek6, o6⟩ := o6.ofO
      refine thn (cmp_val ho'' I6 rz rx6 S6 ((r4.stp st5).stp st6) r6 ek6) fun z7 s7 ⟨ez7, H7, ρ7, I7, st7, S7⟩ => ?_
      subst ez7
      exact wpAny_truthy_bool ⟨H7, I7, (o6.step st7).ret S7 rfl⟩
end
section
variable {F : Type} {N : Nm} {D : Pd F} {k : Nat} {W : WX} {X : Cx} {Γ : Tx F} {r : Tx F → Expr → Option (C F)}
theorem evT_cmp2 {P : Prog F} {G : F → List T → M T} {mk : Nat → Nat → List Nat → List T → M T} {σ : Env} {a b c : C F} {op op' : Cm} : evT P G mk (.cmp2 op op' a b c) σ = bnd (ev P G mk a σ) fun x => bnd (ev P G mk b σ) fun y => bnd (ofO (cmpT op x y)) fun t => if t then bnd (ev P G mk c σ) fun z => ofO (cmpT op' y z) else ret false := by
  show bnd (bnd (ev P G mk a σ) fun x => bnd (ev P G mk b σ) fun y => bnd (ofO (cmpT op x y)) fun t => if t then bnd (ev P G mk c σ) fun z => bnd (ofO (cmpT op' y z)) fun u => ret (.bl u) else ret (.bl false)) truT = _
  rw [bnd_assoc]
  congr 1
  funext x
  rw [bnd_assoc]
  congr 1
  funext y
  rw [bnd_assoc]
  congr 1
  funext t
  cases t with
  | false => rfl
  | true =>
    show bnd (bnd (ev P G mk c σ) fun z => bnd (ofO (cmpT op' y z)) fun u => ret (.bl u)) truT = bnd (ev P G mk c σ) fun z => ofO (cmpT op' y z)
    rw [bnd_assoc]
    congr 1
    funext z
    rw [bnd_assoc]
    exact bnd_id _
theorem evT_cmp3 {P : Prog F} {G : F → List T → M T} {mk : Nat → Nat → List Nat → List T → M T} {σ : Env} {a b c d : C F} {op op' op'' : Cm} : evT P G mk (.cmp3 op op' op'' a b c d) σ = bnd (ev P G mk a σ) fun x => bnd (ev P G mk b σ) fun y => bnd (ofO (cmpT op x y)) fun t =>
      if t then bnd (ev P G mk c σ) fun z => bnd (ofO (cmpT op' y z)) fun u => if u then bnd (ev P G mk d σ) fun w => ofO (cmpT op'' z w) else ret false else ret false := by
  show bnd (bnd (ev P G mk a σ) fun x => bnd (ev P G mk b σ) fun y => bnd (ofO (cmpT op x y)) fun t => if t then bnd (ev P G mk c σ) fun z => bnd (ofO (cmpT op' y z)) fun u => if u then bnd (ev P G mk d σ) fun w => bnd (ofO (cmpT op'' z w)) fun r => ret (.bl r) else ret (.bl false) else ret (.bl false)) truT = _
  rw [bnd_assoc]
  congr 1
  funext x
  rw [bnd_assoc]
  congr 1
  funext y
  rw [bnd_assoc]
  congr 1
  funext t
  cases t with
  | false => rfl
  | true =>
    show bnd (bnd (ev P G mk c σ) fun z => bnd (ofO (cmpT op' y z)) fun u => if u then bnd (ev P G mk d σ) fun w => bnd (ofO (cmpT op'' z w)) fun r => ret (.bl r) else ret (.bl false)) truT = bnd (ev P G mk c σ) fun z => bnd (ofO (cmpT op' y z)) fun u => if u then bnd (ev P G mk d σ) fun w => ofO (cmpT op'' z w) else ret false
    rw [bnd_assoc]
    congr 1
    funext z
    rw [bnd_assoc]
    congr 1
    funext u
    cases u with
    | false => rfl
    | true =>
      show bnd (bnd (ev P G mk d σ) fun w => bnd (ofO (cmpT op'' z w)) fun r => ret (.bl r)) truT = bnd (ev P G mk d σ) fun w => ofO (cmpT op'' z w)
      rw [bnd_assoc]
      congr 1
      funext w
      rw [bnd_assoc]
      exact bnd_id _
/-! ### comprehensions -/
theorem snd_If (st : SndT N D k r) (o : TxOk N D k W X Γ) {ifs : List Expr} {cf : List (C F)} (h : trIf r Γ ifs = some cf) : PTs X ifs (tOfB N W (evIf D.P (callN D.P k) (makeN D.P k) cf)) := by
  match ifs, h with
  | [], h => cases h; exact pts_tnil
  | [c], h =>
    have h : (r Γ c).map (fun c => [c]) = some cf := h
    cases w : r Γ c with
    | none => rw [w] at h; cases h
    | some cc =>
      rw [w] at h
      cases h
      exact pts_one (st _ _ _ o _ _ w)
  | _ :: _ :: _, h => cases h
theorem all_mem {sl own : List Nat} (h : sl.all (fun i => own.contains i) = true) : ∀ i ∈ sl, i ∈ own := fun i hi => by
  have := List.all_eq_true.mp h i hi
  exact List.contains_iff_mem.mp this
theorem ns_mem {sl own : List Nat} (h : ∀ i ∈ sl, i ∈ own) : ∀ i, (fun i => sl.contains i) i = true → i ∈ own := fun i hi => h i (List.contains_iff_mem.mp hi)
theorem not_set {e : Expr} (h : ¬ isSet e = true) : isSet e = false := by
  cases q : isSet e with
  | true => exact (h q).elim
  | false => rfl
/-- what a one-clause comprehension gives -/
theorem comp1 {elt tg it : Expr} {ifs : List Expr} {z : Int} {scope : Scope} {p : Pos} {c : C F} (h : trComp r Γ elt scope p [⟨tg, it, ifs, z⟩] = some c) :
    z = 0 ∧ blkC Γ.nms Γ.sc scope (ownOf Γ scope scope.names) = true ∧ ∃ ci cg sl cf ce, trI r Γ tg it = some ci ∧ trG r (inBlk Γ scope) 4 tg = some (cg, sl) ∧ trIf r (inBlk Γ scope) ifs = some cf ∧ r (inBlk Γ scope) elt = some ce ∧
      (∀ i ∈ sl, i ∈ (ownOf Γ scope scope.names).map (·.2)) ∧ isSet it = false ∧ c = .lc (Γ.mu p) cg ci cf ce ((ownOf Γ scope scope.names).map (·.2)) := by
  unfold trComp at h
  split at h
  · rename_i tg' it' ifs' heq
    cases heq
    dsimp only at h
    by_cases hb : blkC Γ.nms Γ.sc scope (ownOf Γ scope scope.names) = true
    · rw [if_pos hb] at h
      split at h
      · rename_i ci cg sl cf ce w1 w2 w3 w4
        split at h
        · rename_i hc
          cases h
          exact ⟨rfl, hb, ci, cg, sl, cf, ce, w1, w2, w3, w4, all_mem hc.1, not_set hc.2, rfl⟩
        · cases h
      · cases h
    · rw [if_neg hb] at h
      cases h
  · rename_i heq
    cases heq
  · cases h
theorem comp2 {elt tg it tg1 it1 : Expr} {ifs ifs1 : List Expr} {z z1 : Int} {scope : Scope} {p : Pos} {c : C F} (h : trComp r Γ elt scope p [⟨tg, it, ifs, z⟩, ⟨tg1, it1, ifs1, z1⟩] = some c) :
    z = 0 ∧ z1 = 0 ∧ blkC Γ.nms Γ.sc scope (ownOf Γ scope scope.names) = true ∧ ∃ ci cg sl cf ce ci1 cg1 sl1 cf1, trI r Γ tg it = some ci ∧ trG r (inBlk Γ scope) 4 tg = some (cg, sl) ∧ trIf r (inBlk Γ scope) ifs = some cf ∧ r (inBlk Γ scope) elt = some ce ∧
      trI r (inBlk Γ scope) tg1 it1 = some ci1 ∧ trG r (inBlk Γ scope) 4 tg1 = some (cg1, sl1) ∧ trIf r (inBlk Γ scope) ifs1 = some cf1 ∧
      (∀ i ∈ sl, i ∈ (ownOf Γ scope scope.names).map (·.2)) ∧ (∀ i ∈ sl1, i ∈ (ownOf Γ scope scope.names).map (·.2)) ∧ isSet it = false ∧ isSet it1 = false ∧ c = .lc2 (Γ.mu p) cg ci cf cg1 ci1 cf1 ce ((ownOf Γ scope scope.names).map (·.2)) sl1 := by
  unfold trComp at h
  split at h
  · rename_i heq
    cases heq
  · rename_i heq
    cases heq
    dsimp only at h
    by_cases hb : blkC Γ.nms Γ.sc scope (ownOf Γ scope scope.names) = true
    · rw [if_pos hb] at h
      split at h
      · rename_i ci cg sl cf ce w1 w2 w3 w4
        split at h
        · rename_i ci1 cg1 sl1 cf1 w5 w6 w7
          split at h
          · rename_i hc
            cases h
            exact ⟨rfl, rfl, hb, ci, cg, sl, cf, ce, ci1, cg1, sl1, cf1, w1, w2, w3, w4, w5, w6, w7, all_mem hc.1, all_mem hc.2.1, not_set hc.2.2.1, not_set hc.2.2.2, rfl⟩
          · cases h
        · cases h
      · cases h
    · rw [if_neg hb] at h
      cases h
  · cases h
theorem comp_len {elt : Expr} {gens : List Comprehension} {scope : Scope} {p : Pos} {c : C F} (h : trComp r Γ elt scope p gens = some c) : (∃ tg it ifs z, gens = [⟨tg, it, ifs, z⟩]) ∨ ∃ tg it ifs z tg1 it1 ifs1 z1, gens = [⟨tg, it, ifs, z⟩, ⟨tg1, it1, ifs1, z1⟩] := by
  unfold trComp at h
  split at h
  · exact .inl ⟨_, _, _, _, rfl⟩
  · exact .inr ⟨_, _, _, _, _, _, _, _, rfl⟩
  · cases h
theorem snd_comp (sh : Shp r) (se : SndE N D k r) (st : SndT N D k r) (o : TxOk N D k W X Γ) {elt : Expr} {gens : List Comprehension} {scope : Scope} {p : Pos} {c : C F} (h : trComp r Γ elt scope p gens = some c) : PE X (.ListComp elt gens scope p) (tOf N W (eE D k c)) := by
  rcases comp_len h with ⟨tg, it, ifs, z, rfl⟩ | ⟨tg, it, ifs, z, tg1, it1, ifs1, z1, rfl⟩
  · obtain ⟨rfl, hb, ci, cg, sl, cf, ce, w1, w2, w3, w4, hs, hset, rfl⟩ := comp1 h
    have bo : BlkOk X.N X.env.scope scope (ownOf Γ scope scope.names) := by
      rw [o.nms, o.sc]
      exact blkOk_by hb
    obtain ⟨hi, _⟩ := snd_I sh se o w1
    exact pe_tlc (ns := fun i => sl.contains i) (own := ownOf Γ scope scope.names) o.calm (by rw [o.nms]; exact o.nd) hi bo (ns_mem hs)
      (fun s H C cl fp => (snd_G sh se (o.blk bo.kind s H C cl fp) 4 tg cg sl w2 fun i hi => List.contains_iff_mem.mpr hi).1)
      (fun s H C cl fp => snd_If st (o.blk bo.kind s H C cl fp) w3) (fun s H C cl fp => se _ _ _ (o.blk bo.kind s H C cl fp) _ _ w4) (fold_ok hset)
  · obtain ⟨rfl, rfl, hb, ci, cg, sl, cf, ce, ci1, cg1, sl1, cf1, w1, w2, w3, w4, w5, w6, w7, hs, hs1, hset, hset1, rfl⟩ := comp2 h
    have bo : BlkOk X.N X.env.scope scope (ownOf Γ scope scope.names) := by
      rw [o.nms, o.sc]
      exact blkOk_by hb
    obtain ⟨hi, _⟩ := snd_I sh se o w1
    exact pe_tlc2 (ns := fun i => sl.contains i) (ns1 := fun i => sl1.contains i) (own := ownOf Γ scope scope.names) (vs1 := sl1) o.calm (by rw [o.nms]; exact o.nd) hi bo hs1 (ns_mem hs) (ns_mem fun i hi => hi)
      (fun s H C cl fp => (snd_G sh se (o.blk bo.kind s H C cl fp) 4 tg cg sl w2 fun i hi => List.contains_iff_mem.mpr hi).1)
      (fun s H C cl fp => snd_If st (o.blk bo.kind s H C cl fp) w3)
      (fun s H C cl fp => (snd_I sh se (o.blk bo.kind s H C cl fp) w5).1)
      (fun s H C cl fp => (snd_G sh se (o.blk bo.kind s H C cl fp) 4 tg1 cg1 sl1 w6 fun i hi => List.contains_iff_mem.mpr hi).1)
      (fun s H C cl fp => snd_If st (o.blk bo.kind s H C cl fp) w7)
      (fun s H C cl fp => se _ _ _ (o.blk bo.kind s H C cl fp) _ _ w4) (fold_ok hset) (fun env => fold_ok hset1)
end
end Mt

set_option maxHeartbeats 8000000
/-! Mt21: the whole for expressions. -/
namespace Mt
open PySem PySem.Spec PyProof.Rows L2
section
variable {F : Type} {N : Nm} {D : Pd F} {k k' : Nat} {W : WX} {X : Cx} {Γ : Tx F} {r : Tx F → Expr → Option (C F)}
theorem step_bool {op : BoolOp} {es : List Expr} {p : Pos} {c : C F} (h : trStep r Γ (.BoolOp op es p) = some c) : (∃ a, es = [a] ∧ r Γ a = some c) ∨
    ∃ a b rest ca cb, es = a :: b :: rest ∧ r Γ a = some ca ∧ r Γ (.BoolOp op (b :: rest) p) = some cb ∧ c = boC op ca cb := by
  match es, h with
  | [], h => cases h
  | [a], h => exact .inl ⟨a, rfl, h⟩
  | a :: b :: rest, h =>
    have h : (match r Γ a, r Γ (.BoolOp op (b :: rest) p) with
      | some ca, some cb => some (boC op ca cb)
      | _, _ => none) = some c := h
    cases w1 : r Γ a with
    | none => rw [w1] at h; cases h
    | some ca =>
      cases w2 : r Γ (.BoolOp op (b :: rest) p) with
      | none => rw [w1, w2] at h; cases h
      | some cb =>
        rw [w1, w2] at h
        exact .inr ⟨a, b, rest, ca, cb, rfl, w1, w2, (Option.some.inj h).symm⟩
theorem snd_cmpE (se : SndE N D k r) (sh : Shp r) (o : TxOk N D k W X Γ) {a : Expr} {ops : List CmpOp} {bs : List Expr} {p : Pos} {c : C F} (h : trStep r Γ (.Compare a ops bs p) = some c) : PE X (.Compare a ops bs p) (tOf N W (eE D k c)) ∧ PT X (.Compare a ops bs p) (tOfB N W (eT D k c)) := by
  have oc : ∀ q : CmpOp, OpR X (compareOp (cmO (cmOf q))) (r2 N (cmpM (cmOf q))) := fun q => ok_cmp o.hK o.units (cmOf q)
  match ops, bs, h with
  | [o1], [b1], h =>
    have h : (match r Γ a, r Γ b1 with
      | some ca, some c1 => eqC Γ p o1 ca c1
      | _, _ => none) = some c := h
    cases w1 : r Γ a with
    | none => rw [w1] at h; cases h
    | some ca =>
      cases w2 : r Γ b1 with
      | none => rw [w1, w2] at h; cases h
      | some c1 =>
        rw [w1, w2] at h
        have hm : behindInMarks (cmO (cmOf o1)) b1 = false := marks_ok (sh _ _ _ w2).2.1
        rcases eqC_or h with ⟨e1, mi, e3, e4⟩ | e4
        · subst e1 e4
          have hq := o.kmO _ mi e3
          exact ⟨pe_teqo o.ok o.hK (o.FG k (Nat.le_refl _)) o.room o.gd o.pass hq (se _ _ _ o _ _ w1) (se _ _ _ o _ _ w2) hm, pt_teqo o.ok o.hK (o.FG k (Nat.le_refl _)) o.room o.gd o.pass hq (se _ _ _ o _ _ w1) (se _ _ _ o _ _ w2) hm⟩
        · subst e4
          have q1 := pe_tcmp (pos := p) (oc o1) (se _ _ _ o _ _ w1) (se _ _ _ o _ _ w2) hm
          have q2 := pt_tcmp (pos := p) (oc o1) (se _ _ _ o _ _ w1) (se _ _ _ o _ _ w2) hm
          rw [cmOf_ok] at q1 q2
          exact ⟨q1, PTo q2 fun σ => evT_cmp⟩
  | [o1, o2], [b1, b2], h =>
    have h : (match r Γ a, r Γ b1, r Γ b2 with
      | some ca, some c1, some c2 => some (C.cmp2 (cmOf o1) (cmOf o2) ca c1 c2)
      | _, _, _ => none) = some c := h
    cases w1 : r Γ a with
    | none => rw [w1] at h; cases h
    | some ca =>
      cases w2 : r Γ b1 with
      | none => rw [w1, w2] at h; cases h
      | some c1 =>
        cases w3 : r Γ b2 with
        | none => rw [w1, w2, w3] at h; cases h
        | some c2 =>
          rw [w1, w2, w3] at h
          cases h
          have hm : lastMarks [cmO (cmOf o1), cmO (cmOf o2)] [b1, b2] = false := marks_ok (sh _ _ _ w3).2.1
          have q1 := pe_tcmp2 (pos := p) (oc o1) (oc o2) (se _ _ _ o _ _ w1) (se _ _ _ o _ _ w2) (se _ _ _ o _ _ w3) hm
          have q2 := pt_tcmp2 (pos := p) (oc o1) (oc o2) (se _ _ _ o _ _ w1) (se _ _ _ o _ _ w2) (se _ _ _ o _ _ w3) hm
          rw [cmOf_ok, cmOf_ok] at q1 q2
          exact ⟨q1, PTo q2 fun σ => evT_cmp2⟩
  | [o1, o2, o3], [b1, b2, b3], h =>
    have h : (match r Γ a, r Γ b1, r Γ b2, r Γ b3 with
      | some ca, some c1, some c2, some c3 => some (C.cmp3 (cmOf o1) (cmOf o2) (cmOf o3) ca c1 c2 c3)
      | _, _, _, _ => none) = some c := h
    cases w1 : r Γ a with
    | none => rw [w1] at h; cases h
    | some ca =>
      cases w2 : r Γ b1 with
      | none => rw [w1, w2] at h; cases h
      | some c1 =>
        cases w3 : r Γ b2 with
        | none => rw [w1, w2, w3] at h; cases h
        | some c2 =>
          cases w4 : r Γ b3 with
          | none => rw [w1, w2, w3, w4] at h; cases h
          | some c3 =>
            rw [w1, w2, w3, w4] at h
            cases h
            have hm : lastMarks [cmO (cmOf o1), cmO (cmOf o2), cmO (cmOf o3)] [b1, b2, b3] = false := marks_ok (sh _ _ _ w4).2.1
            have q1 := pe_tcmp3 (pos := p) (oc o1) (oc o2) (oc o3) (se _ _ _ o _ _ w1) (se _ _ _ o _ _ w2) (se _ _ _ o _ _ w3) (se _ _ _ o _ _ w4) hm
            have q2 := pt_tcmp3 (pos := p) (oc o1) (oc o2) (oc o3) (se _ _ _ o _ _ w1) (se _ _ _ o _ _ w2) (se _ _ _ o _ _ w3) (se _ _ _ o _ _ w4) hm
            rw [cmOf_ok, cmOf_ok, cmOf_ok] at q1 q2
            exact ⟨q1, PTo q2 fun σ => evT_cmp3⟩
  | [], _, h => cases h
  | [_], [], h => cases h
  | [_], _ :: _ :: _, h => cases h
  | [_, _], [], h => cases h
  | [_, _], [_], h => cases h
  | [_, _], _ :: _ :: _ :: _, h => cases h
  | [_, _, _], [], h => cases h
  | [_, _, _], [_], h => cases h
  | [_, _, _], [_, _], h => cases h
  | [_, _, _], _ :: _ :: _ :: _ :: _, h => cases h
  | _ :: _ :: _ :: _ :: _, _, h => cases h
theorem snd_stepE (hk : k = k' + 1) (sh : Shp r) (se : SndE N D k r) (st : SndT N D k r) : SndE N D k (trStep r) := fun W X Γ o e c h => by
  cases e with
  | Constant v kk p =>
    cases v with
    | int i => cases h; exact pe_tcon pe_int fun _ _ _ => rfl
    | bool b => cases h; exact pe_tcon pe_bl fun _ _ _ => rfl
    | none => cases h; exact pe_tcon pe_non fun _ _ _ => rfl
    | str s => cases h; exact pe_tcon pe_str fun _ _ _ => rfl
    | _ => cases h
  | Name x p => exact snd_name o h
  | BinOp a op b p =>
    have h : (match opOf op, r Γ a, r Γ b with
      | some o, some ca, some cb => some (C.bin o (Γ.mu p) ca cb)
      | _, _, _ => none) = some c := h
    cases w0 : opOf op with
    | none => rw [w0] at h; cases h
    | some q =>
      cases w1 : r Γ a with
      | none => rw [w0, w1] at h; cases h
      | some ca =>
        cases w2 : r Γ b with
        | none => rw [w0, w1, w2] at h; cases h
        | some cb =>
          rw [w0, w1, w2] at h
          cases h
          rw [← opOf_ok w0]
          exact pe_tbin (ok_op o.hK q) (se _ _ _ o _ _ w1) (se _ _ _ o _ _ w2)
  | UnaryOp op a p =>
    cases op with
    | Not =>
      have h : (r Γ a).map C.not = some c := h
      cases w1 : r Γ a with
      | none => rw [w1] at h; cases h
      | some ca => rw [w1] at h; cases h; exact pe_tnot o.hK (se _ _ _ o _ _ w1)
    | USub =>
      have h : (r Γ a).map C.neg = some c := h
      cases w1 : r Γ a with
      | none => rw [w1] at h; cases h
      | some ca => rw [w1] at h; cases h; exact pe_tun (ok_neg o.hK) (se _ _ _ o _ _ w1)
    | _ => cases h
  | BoolOp op es p =>
    rcases step_bool h with ⟨a, rfl, w1⟩ | ⟨a, b, rest, ca, cb, rfl, w1, w2, rfl⟩
    · exact pe_one (se _ _ _ o _ _ w1)
    · cases op with
      | And => exact pe_tand o.hK (se _ _ _ o _ _ w1) (se _ _ _ o _ _ w2)
      | Or => exact pe_tor o.hK (se _ _ _ o _ _ w1) (se _ _ _ o _ _ w2)
  | IfExp q a b p =>
    have h : (match r Γ q, r Γ a, r Γ b with
      | some cc, some ca, some cb => some (C.ite cc ca cb)
      | _, _, _ => none) = some c := h
    cases w0 : r Γ q with
    | none => rw [w0] at h; cases h
    | some cq =>
      cases w1 : r Γ a with
      | none => rw [w0, w1] at h; cases h
      | some ca =>
        cases w2 : r Γ b with
        | none => rw [w0, w1, w2] at h; cases h
        | some cb =>
          rw [w0, w1, w2] at h
          cases h
          exact pe_tite (st _ _ _ o _ _ w0) (se _ _ _ o _ _ w1) (se _ _ _ o _ _ w2)
  | Compare a ops bs p => exact (snd_cmpE se sh o h).1
  | Tuple es kk p =>
    have h : (trL r Γ es).map C.tup = some c := h
    cases w1 : trL r Γ es with
    | none => rw [w1] at h; cases h
    | some cs => rw [w1] at h; cases h; exact pe_ttup (snd_L sh se o w1)
  | List es p =>
    have h : (trL r Γ es).map (C.lst (Γ.mu p)) = some c := h
    cases w1 : trL r Γ es with
    | none => rw [w1] at h; cases h
    | some cs => rw [w1] at h; cases h; exact pe_tlst (snd_L sh se o w1)
  | Subscript a i p =>
    have pl : ∀ {i : Expr}, (match r Γ a, r Γ i with
      | some ca, some ci => some (C.idx ca ci)
      | _, _ => none) = some c → PE X (.Subscript a i p) (tOf N W (eE D k c)) := fun {i} h => by
      cases w1 : r Γ a with
      | none => rw [w1] at h; cases h
      | some ca =>
        cases w2 : r Γ i with
        | none => rw [w1, w2] at h; cases h
        | some ci =>
          rw [w1, w2] at h
          cases h
          exact pe_tidx o.hK (se _ _ _ o _ _ w1) (se _ _ _ o _ _ w2) (sub_ok (sh _ _ _ w2).2.2)
    cases i with
    | Slice lo hi stp p2 =>
      cases stp with
      | some _ => cases h
      | none =>
        have h : (match r Γ a, trO r Γ lo, trO r Γ hi with
          | some ca, some cl, some ch => some (C.slc (Γ.mu p) ca cl ch)
          | _, _, _ => none) = some c := h
        cases w1 : r Γ a with
        | none => rw [w1] at h; cases h
        | some ca =>
          cases w2 : trO r Γ lo with
          | none => rw [w1, w2] at h; cases h
          | some cl =>
            cases w3 : trO r Γ hi with
            | none => rw [w1, w2, w3] at h; cases h
            | some ch =>
              rw [w1, w2, w3] at h
              cases h
              exact pe_tslc o.hK (se _ _ _ o _ _ w1) (snd_O se o w2) (snd_O se o w3)
    | _ => exact pl h
  | Attribute a f p =>
    have h : (if isSuper a = true then none else (match r Γ a, Γ.kf f with
      | some ca, some i => some (C.fld ca i)
      | _, _ => none)) = some c := h
    by_cases hs : isSuper a = true
    · rw [if_pos hs] at h; cases h
    · rw [if_neg hs] at h
      have hs' : isSuper a = false := by
        cases q : isSuper a with
        | true => exact (hs q).elim
        | false => rfl
      cases w1 : r Γ a with
      | none => rw [w1] at h; cases h
      | some ca =>
        cases w2 : Γ.kf f with
        | none => rw [w1, w2] at h; cases h
        | some i =>
          rw [w1, w2] at h
          cases h
          obtain ⟨e1, e2⟩ := o.kfO f i w2
          subst e1
          exact pe_tfld o.hK (se _ _ _ o _ _ w1) (base_ok hs') e2
  | Call f args kws p => exact snd_call hk sh se o h
  | ListComp elt gens scope p => exact snd_comp sh se st o h
  | _ => cases h
theorem snd_stepW (se : SndE N D k r) (st : SndT N D k r) (sw : SndW N D k r) : SndW N D k (trStep r) := fun W X Γ o op es p c h => by
  rcases step_bool h with ⟨a, rfl, w1⟩ | ⟨a, b, rest, ca, cb, rfl, w1, w2, rfl⟩
  · cases op with
    | And => exact pw_and1 (st _ _ _ o _ _ w1)
    | Or => exact pw_or1 (st _ _ _ o _ _ w1)
  · cases op with
    | And => exact PWo (pw_tand (st _ _ _ o _ _ w1) (sw _ _ _ o _ _ _ _ w2)) fun σ => evT_and
    | Or => exact PWo (pw_tor (st _ _ _ o _ _ w1) (sw _ _ _ o _ _ _ _ w2)) fun σ => evT_or
theorem snd_stepT (hk : k = k' + 1) (sh : Shp r) (se : SndE N D k r) (st : SndT N D k r) (sw : SndW N D k r) : SndT N D k (trStep r) := fun W X Γ o e c h => by
  by_cases hp : plainT e = true
  · exact pt_tplain o.hK (snd_stepE hk sh se st W X Γ o e c h) (plain_ok hp)
  · cases e with
    | UnaryOp op a p =>
      cases op with
      | Not =>
        have h : (r Γ a).map C.not = some c := h
        cases w1 : r Γ a with
        | none => rw [w1] at h; cases h
        | some ca => rw [w1] at h; cases h; exact PTo (pt_tnot (st _ _ _ o _ _ w1)) fun σ => evT_not
      | _ => exact (hp rfl).elim
    | BoolOp op es p => exact (snd_stepW se st sw W X Γ o op es p c h).pt
    | IfExp q a b p =>
      have h : (match r Γ q, r Γ a, r Γ b with
        | some cc, some ca, some cb => some (C.ite cc ca cb)
        | _, _, _ => none) = some c := h
      cases w0 : r Γ q with
      | none => rw [w0] at h; cases h
      | some cq =>
        cases w1 : r Γ a with
        | none => rw [w0, w1] at h; cases h
        | some ca =>
          cases w2 : r Γ b with
          | none => rw [w0, w1, w2] at h; cases h
          | some cb =>
            rw [w0, w1, w2] at h
            cases h
            exact PTo (pt_tite (st _ _ _ o _ _ w0) (st _ _ _ o _ _ w1) (st _ _ _ o _ _ w2)) fun σ => evT_ite
    | Compare a ops bs p => exact (snd_cmpE se sh o h).2
    | _ => exact (hp rfl).elim
theorem snd_all (hk : k = k' + 1) : ∀ n, SndE N D k (trE n) ∧ SndT N D k (trE n) ∧ SndW N D k (trE n)
  | 0 => ⟨(fun _ _ _ _ _ _ h => by cases h), (fun _ _ _ _ _ _ h => by cases h), (fun _ _ _ _ _ _ _ _ h => by cases h)⟩
  | n + 1 => by
    obtain ⟨se, st, sw⟩ := snd_all hk n
    exact ⟨snd_stepE hk (shp n) se st, snd_stepT hk (shp n) se st sw, snd_stepW se st sw⟩
end
end Mt

set_option maxHeartbeats 8000000
/-! Mt22: statements. -/
namespace Mt
open PySem PySem.Spec PyProof.Rows L2
/-- whether a, b = x, y is stored from the right -/
def swNames (sc : Scope) (line : Nat) (ts : List Expr) : List Str := ts.filterMap fun
  | .Name id pos => if sc.names.lookup id == some .local && pos.line == line then some id else none
  | _ => none
def swT (sc : Scope) (ts vs : List Expr) : Option (Option (List Str)) :=
  if (!(ts.length == 2 || ts.length == 3) || vs.length != ts.length) = true then some none
  else if vs.any isStar = true then some none
  else if ((swNames sc ((ts.head?.map (·.pos.line)).getD 0) ts).length != ts.length || (swNames sc ((ts.head?.map (·.pos.line)).getD 0) ts).eraseDups.length != (swNames sc ((ts.head?.map (·.pos.line)).getD 0) ts).length) = true then some none
  else if vs.all (foldedForSure 8) = true then some none
  else if vs.all (constantsAlone 8) = true then none
  else some (some (swNames sc ((ts.head?.map (·.pos.line)).getD 0) ts))
theorem swT_ok {sc : Scope} {ts vs : List Expr} {env : PySem.Env} {k1 k2 : Nat} {p1 p2 : Pos} {r : Option (List Str)} (hs : env.scope = sc) (hk : sc.kind = .function) (h : swT sc ts vs = some r) : swappedStores [.Tuple ts k1 p1] (.Tuple vs k2 p2) env = pure r := by
  have hb : env.blockKind = .function := by unfold Env.blockKind; rw [hs, hk]; rfl
  unfold swT at h
  unfold swappedStores
  dsimp only
  rw [hb]
  simp only [bne_self_eq_false, Bool.or_false]
  show (if (!(ts.length == 2 || ts.length == 3) || vs.length != ts.length) = true then (pure none : Sem (Option (List Str)))
    else if vs.any isStar = true then pure none
    else if ((swNames env.scope ((ts.head?.map (·.pos.line)).getD 0) ts).length != ts.length || (swNames env.scope ((ts.head?.map (·.pos.line)).getD 0) ts).eraseDups.length != (swNames env.scope ((ts.head?.map (·.pos.line)).getD 0) ts).length) = true then pure none
    else if vs.all (foldedForSure 8) = true then pure none
    else if vs.all (constantsAlone 8) = true then (do
      unsupported "assign.tuple-of-constant-expressions:order-of-the-stores"
      pure (some (swNames env.scope ((ts.head?.map (·.pos.line)).getD 0) ts)))
    else pure (some (swNames env.scope ((ts.head?.map (·.pos.line)).getD 0) ts))) = _
  rw [hs]
  by_cases c1 : (!(ts.length == 2 || ts.length == 3) || vs.length != ts.length) = true
  · rw [if_pos c1] at h ⊢; cases h; rfl
  rw [if_neg c1] at h ⊢
  by_cases c2 : vs.any isStar = true
  · rw [if_pos c2] at h ⊢; cases h; rfl
  rw [if_neg c2] at h ⊢
  by_cases c3 : ((swNames sc ((ts.head?.map (·.pos.line)).getD 0) ts).length != ts.length || (swNames sc ((ts.head?.map (·.pos.line)).getD 0) ts).eraseDups.length != (swNames sc ((ts.head?.map (·.pos.line)).getD 0) ts).length) = true
  · rw [if_pos c3] at h ⊢; cases h; rfl
  rw [if_neg c3] at h ⊢
  by_cases c4 : vs.all (foldedForSure 8) = true
  · rw [if_pos c4] at h ⊢; cases h; rfl
  rw [if_neg c4] at h ⊢
  by_cases c5 : vs.all (constantsAlone 8) = true
  · rw [if_pos c5] at h; cases h
  rw [if_neg c5] at h ⊢
  cases h
  rfl


section
variable {F : Type} (r : Tx F → Expr → Option (C F)) (Γ : Tx F)
def isLc : Expr → Bool
  | .ListComp _ _ _ _ => true
  | .SetComp _ _ _ _ => true
  | .DictComp _ _ _ _ _ => true
  | _ => false
/-- a comprehension that is stored at once -/
def swL (sc : Scope) : Expr → Expr → Bool
  | .Name t pos, .ListComp _ _ s p => sc.names.lookup t == some .local && pos.line == p.line && !(s.names.any fun (n, k) => n == t && (k == .local || k == .cell))
  | _, _ => false
def trAsg (tg e : Expr) : Option (S F) := match trG r Γ 6 tg, r Γ e with
  | some (cg, _), some ce => (match tg, e with
    | .Tuple ts _ _, .Tuple vs _ _ => (match swT Γ.sc ts vs with
      | none => none
      | some none => some (.asg cg ce)
      | some (some nms) => (match ts, vs, nms with
        | [.Name x _, .Name y _], [_, _], [x', y'] => if x = x' ∧ y = y' ∧ Γ.sc.names.lookup x = some .local ∧ Γ.sc.names.lookup y = some .local ∧ ¬ x = y then some (.asg cg ce) else none
        | [.Name x _, .Name y _, .Name z _], [_, _, _], [x', y', z'] => if x = x' ∧ y = y' ∧ z = z' ∧ Γ.sc.names.lookup x = some .local ∧ Γ.sc.names.lookup y = some .local ∧ Γ.sc.names.lookup z = some .local ∧ ¬ x = y ∧ ¬ x = z ∧ ¬ y = z then some (.asg cg ce) else none
        | _, _, _ => none))
    | _, _ => some (.asg cg ce))
  | _, _ => none
def trSS (rs : List Stmt → Option (List (S F))) : Stmt → Option (S F)
  | .Pass _ => some .pass
  | .Expr e _ => (match e with
    | .Constant (.str _) _ _ => some .pass
    | e => if isLc e then none else (r Γ e).map .expr)
  | .Return e _ => (match e with
    | none => some (.ret (.con .non))
    | some e => (r Γ e).map .ret)
  | .If c a b _ => (match r Γ c, rs a, rs b with
    | some cc, some ca, some cb => some (.iff cc ca cb)
    | _, _, _ => none)
  | .While c b els _ => (match els, r Γ c, rs b with
    | [], some cc, some cb => some (.whl cc cb)
    | _, _, _ => none)
  | .For tg it b els _ => (match els, trG r Γ 6 tg, trI r Γ tg it, rs b with
    | [], some (cg, _), some ci, some cb => some (.for_ cg ci cb)
    | _, _, _, _ => none)
  | .Assign tgs e _ => (match tgs with
    | [tg] => trAsg r Γ tg e
    | _ => none)
  | .AugAssign tg op e _ => (match tg with
    | .Name x _ => if stOk Γ x then (match ixOf x Γ.nms, r Γ e with
      | some i, some ce => (match op with
        | .Add => some (.aug i .add ce)
        | .Sub => some (.aug i .sub ce)
        | _ => none)
      | _, _ => none) else none
    | _ => none)
  | .Raise _ _ _ => some .rai
  | _ => none
end
def trSs {F : Type} (r : Tx F → Expr → Option (C F)) (Γ : Tx F) : Nat → List Stmt → Option (List (S F))
  | 0, _ => none
  | _ + 1, [] => some []
  | n + 1, s :: ss => match trSS r Γ (trSs r Γ n) s, trSs r Γ n ss with
    | some c, some cs => some (c :: cs)
    | _, _ => none
section
variable {F : Type} {N : Nm} {D : Pd F} {k : Nat} {W : WX} {X : Cx} {Γ : Tx F} {r : Tx F → Expr → Option (C F)}
abbrev nsT : Nat → Bool := fun _ => true
abbrev eS (D : Pd F) (k : Nat) (s : S F) : Env → M (Fl × Env) := exS D.P (callN D.P k) (makeN D.P k) s
abbrev eSs (D : Pd F) (k : Nat) (s : List (S F)) : Env → M (Fl × Env) := exSs D.P (callN D.P k) (makeN D.P k) s
theorem PSo {st : Stmt} {E E' : Env → M (Fl × Env)} (p : PS X st (tOfS N W nsT E)) (h : ∀ σ, E' σ = E σ) : PS X st (tOfS N W nsT E') := by
  rw [funext h]
  exact p
theorem tOf_mono {E : Env → M T} {σ : L2.St} {H : Hp} {Q Q' : VK} (q : tOf N W E σ H Q) (f : ∀ x H, Q x H → Q' x H) : tOf N W E σ H Q' := by
  obtain ⟨L, ρ, h, σT, S, E, o⟩ := q
  exact ⟨L, ρ, h, σT, S, E, o.imp f⟩
theorem lc_not {e : Expr} {tg : Option Expr} {l : Nat} {env : PySem.Env} (h : isLc e = false) : swapsWith e tg l env = pure false := by
  cases e <;> first | rfl | cases h
/-- the general store -/
theorem snd_asg0 (sh : Shp r) (se : SndE N D k r) (o : TxOk N D k W X Γ) {tg e : Expr} {p : Pos} {cg ce : C F} {sl : List Nat} (h1 : trG r Γ 6 tg = some (cg, sl)) (h2 : r Γ e = some ce) (hs : swapsWithSole [tg] e p.line X.env = pure false) (hw : swappedStores [tg] e X.env = pure none) :
    PS X (.Assign [tg] e p) (tOfS N W nsT (eS D k (.asg cg ce))) := by
  obtain ⟨q1, q2⟩ := snd_G sh se o (ns := nsT) 6 tg cg sl h1 fun _ _ => rfl
  exact ps_tasg (se _ _ _ o _ _ h2) q1 hs hw (by cases tg <;> first | rfl | cases q2)
theorem snd_setLc (sh : Shp r) (se : SndE N D k r) (st : SndT N D k r) (o : TxOk N D k W X Γ) {x : Str} {px p lp : Pos} {elt : Expr} {gens : List Comprehension} {scope : Scope} {cg c : C F} {sl0 : List Nat} (h1 : trG r Γ 6 (.Name x px) = some (cg, sl0)) (h : trComp r Γ elt scope lp gens = some c)
    (hl : Γ.sc.names.lookup x = some .local) (hsw : swapsWith (.ListComp elt gens scope lp) (some (.Name x px)) p.line X.env = pure true) : PS X (.Assign [.Name x px] (.ListComp elt gens scope lp) p) (tOfS N W nsT (eS D k (.asg cg c))) := by
  have hlX : X.env.scope.names.lookup x = some .local := by rw [o.sc]; exact hl
  have hX : X.N.Nodup := by rw [o.nms]; exact o.nd
  have hst : stOk Γ x = true := by
    unfold stOk
    rw [hl]
  have h1 : (if stOk Γ x = true then (ixOf x Γ.nms).map fun i => (C.tName i, [i]) else none) = some (cg, sl0) := h1
  rw [if_pos hst] at h1
  cases w0 : ixOf x Γ.nms with
  | none => rw [w0] at h1; cases h1
  | some i =>
    rw [w0] at h1
    cases h1
    have hi : X.N[i]? = some x := by rw [o.nms]; exact ixOf_some w0
    have fin : ∀ {D' : Ends} {σ : L2.St} {H : Hp}, tOfS N W nsT (eS D k (.asg (.tName i) c)) D' σ H → tOf N W (eE D k c) σ H (fun v H1 => gName i v σ H1 D'.nx) := fun q => tOf_mono (asg_reads q) fun v H1 ⟨L, ρ, h, σT, t, S, E, r, o⟩ => by
      obtain ⟨c, o⟩ := o.iteN
      exact o.ret S ⟨E.set r i, .set rfl⟩
    rcases comp_len h with ⟨tg, it, ifs, z, rfl⟩ | ⟨tg, it, ifs, z, tg1, it1, ifs1, z1, rfl⟩
    · obtain ⟨rfl, hb, ci, cg, sl, cf, ce, w1, w2, w3, w4, hs, hset, rfl⟩ := comp1 h
      have bo : BlkOk X.N X.env.scope scope (ownOf Γ scope scope.names) := by
        rw [o.nms, o.sc]
        exact blkOk_by hb
      obtain ⟨hi', _⟩ := snd_I sh se o w1
      exact (ps_setLc (own := ownOf Γ scope scope.names) o.calm hX hi hlX hsw hi' bo
        (fun s H C cl fp => (snd_G sh se (ns := fun i => sl.contains i) (o.blk bo.kind s H C cl fp) 4 tg cg sl w2 fun i hi => List.contains_iff_mem.mpr hi).1)
        (fun s H C cl fp => snd_If st (o.blk bo.kind s H C cl fp) w3) (fun s H C cl fp => se _ _ _ (o.blk bo.kind s H C cl fp) _ _ w4) (fold_ok hset)).imp fun D' σ H q => lc_reads (ns_mem hs) (fin q)
    · obtain ⟨rfl, rfl, hb, ci, cg, sl, cf, ce, ci1, cg1, sl1, cf1, w1, w2, w3, w4, w5, w6, w7, hs, hs1, hset, hset1, rfl⟩ := comp2 h
      have bo : BlkOk X.N X.env.scope scope (ownOf Γ scope scope.names) := by
        rw [o.nms, o.sc]
        exact blkOk_by hb
      obtain ⟨hi', _⟩ := snd_I sh se o w1
      exact (ps_setLc2 (own := ownOf Γ scope scope.names) (vs1 := sl1) o.calm hX hi hlX hsw hi' bo hs1
        (fun s H C cl fp => (snd_G sh se (ns := fun i => sl.contains i) (o.blk bo.kind s H C cl fp) 4 tg cg sl w2 fun i hi => List.contains_iff_mem.mpr hi).1)
        (fun s H C cl fp => snd_If st (o.blk bo.kind s H C cl fp) w3)
        (fun s H C cl fp => (snd_I sh se (o.blk bo.kind s H C cl fp) w5).1)
        (fun s H C cl fp => (snd_G sh se (ns := fun i => sl1.contains i) (o.blk bo.kind s H C cl fp) 4 tg1 cg1 sl1 w6 fun i hi => List.contains_iff_mem.mpr hi).1)
        (fun s H C cl fp => snd_If st (o.blk bo.kind s H C cl fp) w7)
        (fun s H C cl fp => se _ _ _ (o.blk bo.kind s H C cl fp) _ _ w4) (fold_ok hset) (fun env => fold_ok hset1)).imp fun D' σ H q => lc2_reads (ns_mem hs) (ns_mem fun i hi => hi) (fin q)
end
end Mt

set_option maxHeartbeats 8000000
/-! Mt23: statements, the whole. -/
namespace Mt
open PySem PySem.Spec PyProof.Rows L2
section
variable {F : Type} {N : Nm} {D : Pd F} {k k' : Nat} {W : WX} {X : Cx} {Γ : Tx F} {r : Tx F → Expr → Option (C F)}
theorem ix_ne {l : List Str} {x y : Str} {i j : Nat} (h1 : l[i]? = some x) (h2 : l[j]? = some y) (h : x ≠ y) : i ≠ j := fun e => by
  subst e
  rw [h1] at h2
  exact h (Option.some.inj h2)
theorem trG_names {x : Str} {p : Pos} {n : Nat} {c : C F} {sl : List Nat} (h : trG r Γ (n + 1) (.Name x p) = some (c, sl)) : ∃ i, c = .tName i ∧ Γ.nms[i]? = some x := by
  have h : (if stOk Γ x = true then (ixOf x Γ.nms).map fun i => (C.tName i, [i]) else none) = some (c, sl) := h
  by_cases hs : stOk Γ x = true
  · rw [if_pos hs] at h
    cases w : ixOf x Γ.nms with
    | none => rw [w] at h; cases h
    | some i => rw [w] at h; cases h; exact ⟨i, rfl, ixOf_some w⟩
  · rw [if_neg hs] at h; cases h
theorem trGs_cons {e : Expr} {es : List Expr} {n : Nat} {cs : List (C F)} {sl : List Nat} (h : trG.trGs r Γ (n + 1) (e :: es) = some (cs, sl)) : ∃ c s1 cr s2, trG r Γ n e = some (c, s1) ∧ trG.trGs r Γ n es = some (cr, s2) ∧ cs = c :: cr := by
  unfold trG.trGs at h
  cases w1 : trG r Γ n e with
  | none => rw [w1] at h; cases h
  | some p1 =>
    obtain ⟨c, s1⟩ := p1
    cases w2 : trG.trGs r Γ n es with
    | none => rw [w1, w2] at h; cases h
    | some p2 =>
      obtain ⟨cr, s2⟩ := p2
      rw [w1, w2] at h
      cases h
      exact ⟨c, s1, cr, s2, rfl, rfl, rfl⟩
theorem trG_tup {es : List Expr} {kk : Nat} {p : Pos} {n : Nat} {c : C F} {sl : List Nat} (h : trG r Γ (n + 1) (.Tuple es kk p) = some (c, sl)) : ∃ cs, c = .tTup cs ∧ trG.trGs r Γ n es = some (cs, sl) := by
  have h : (trG.trGs r Γ n es).map (fun p => (C.tTup p.1, p.2)) = some (c, sl) := h
  cases w : trG.trGs r Γ n es with
  | none => rw [w] at h; cases h
  | some q => rw [w] at h; cases h; exact ⟨q.1, rfl, rfl⟩
theorem tup_reads {cs : List (C F)} {ts : List (C F)} {σ : L2.St} {H : Hp} {D' : Ends} (q : tOfS N W nsT (eS D k (.asg (.tTup ts) (.tup cs))) D' σ H) :
    tOfA N W (eEs D k cs) σ H (fun vs H1 => ∃ L ρ h σT xs, StoOk N L ρ H1 h ∧ ERel N L ρ H1 σT σ ∧ Reps N L ρ H1 xs vs ∧ ts.length = xs.length ∧ Out N (RF N σ nsT) (WS nsT W σ) L ρ H1 (bnd (eAs D k ts xs σT) (fun σ' => ret (.nx, σ')) h) (Dk D')) := by
  obtain ⟨L, ρ, h, σT, S, E, o⟩ := q
  have o : Out N (RF N σ nsT) (WS nsT W σ) L ρ H (bnd (bnd (eEs D k cs σT) fun xs => if xs.length ≤ sizeLine then ret (.tup xs) else no) (fun v => bnd (eA D k (.tTup ts) v σT) fun σ' => ret (.nx, σ')) h) (Dk D') := o
  rw [bnd_assoc] at o
  refine ⟨L, ρ, h, σT, S, E, ((o.bnd (rl := RTs N)).wish WS.we).imp fun vs H1 ⟨ρ1, xs, h1, _, s1, S1, r1, o1⟩ => ?_⟩
  rw [bnd_ite] at o1
  obtain ⟨_, o1⟩ := o1.iteN
  have o1 : Out N (RF N σ nsT) (WS nsT W σ) L ρ1 H1 (bnd (if ts.length = xs.length then eAs D k ts xs σT else no) (fun σ' => ret (.nx, σ')) h1) (Dk D') := o1
  rw [bnd_ite] at o1
  obtain ⟨e, o1⟩ := o1.iteN
  exact ⟨L, ρ1, h1, σT, xs, S1, E.stp s1, r1, e, o1⟩
theorem trStep_tup {es : List Expr} {kk : Nat} {p : Pos} {c : C F} (h : trStep r Γ (.Tuple es kk p) = some c) : ∃ cs, c = .tup cs ∧ trL r Γ es = some cs := by
  have h : (trL r Γ es).map C.tup = some c := h
  cases w : trL r Γ es with
  | none => rw [w] at h; cases h
  | some cs => rw [w] at h; cases h; exact ⟨cs, rfl, rfl⟩
theorem snd_par2 (sh : Shp r) (se : SndE N D k r) (o : TxOk N D k W X Γ) {x y : Str} {px py p pt pt2 : Pos} {kt k2 : Nat} {a b : Expr} {cg ce : C F} {sl : List Nat} (h1 : trG (trStep r) Γ 6 (.Tuple [.Name x px, .Name y py] kt pt) = some (cg, sl)) (h2 : trStep r Γ (.Tuple [a, b] k2 pt2) = some ce)
    (hx : Γ.sc.names.lookup x = some .local) (hy : Γ.sc.names.lookup y = some .local) (ne : x ≠ y) (hw : swappedStores [.Tuple [.Name x px, .Name y py] kt pt] (.Tuple [a, b] k2 pt2) X.env = pure (some [x, y])) :
    PS X (.Assign [.Tuple [.Name x px, .Name y py] kt pt] (.Tuple [a, b] k2 pt2) p) (tOfS N W nsT (eS D k (.asg cg ce))) := by
  obtain ⟨cs, rfl, g1⟩ := trG_tup h1
  obtain ⟨c1, s1, cr1, t1, g2, g3, rfl⟩ := trGs_cons g1
  obtain ⟨c2, s2, cr2, t2, g4, g5, rfl⟩ := trGs_cons g3
  obtain ⟨i, rfl, e1⟩ := trG_names g2
  obtain ⟨j, rfl, e2⟩ := trG_names g4
  have : cr2 = [] := by
    unfold trG.trGs at g5
    cases g5
    rfl
  subst this
  obtain ⟨cs, rfl, g6⟩ := trStep_tup h2
  have hij := ix_ne e1 e2 ne
  refine (ps_par o.calm (by rw [o.nms]; exact o.nd) (by rw [o.nms]; exact e1) (by rw [o.nms]; exact e2) hij (by rw [o.sc]; exact hx) (by rw [o.sc]; exact hy) (snd_L sh se o g6) hw rfl).imp fun D' σ H q => ?_
  obtain ⟨L, ρ, h, σT, S, E, o⟩ := tup_reads q
  refine ⟨L, ρ, h, σT, S, E, o.imp fun vs H1 ⟨L, ρ, h, σT, xs, S, E, rr, el, o⟩ => ?_⟩
  match xs, el, rr, o with
  | [t, u], _, rr, o =>
    obtain ⟨v, zs, rfl, rv, w, zs2, rfl, rw_, e0⟩ := rr
    cases (show zs2 = [] from e0)
    refine ⟨v, w, rfl, ?_⟩
    have o : Out N (RF N σ nsT) (WS nsT W σ) L ρ H1 (bnd (bnd (if i < σT.length then ret (σT.set i (some t)) else no) fun σ' => bnd (if j < σ'.length then ret (σ'.set j (some u)) else no) fun σ'' => ret σ'') (fun σ' => ret (.nx, σ')) h) (Dk D') := o
    rw [bnd_assoc, bnd_ite] at o
    obtain ⟨_, o⟩ := o.iteN
    have o : Out N (RF N σ nsT) (WS nsT W σ) L ρ H1 (bnd (bnd (if j < (σT.set i (some t)).length then ret ((σT.set i (some t)).set j (some u)) else no) fun σ'' => ret σ'') (fun σ' => ret (.nx, σ')) h) (Dk D') := o
    rw [bnd_assoc, bnd_ite] at o
    obtain ⟨_, o⟩ := o.iteN
    exact o.nx S ((E.set rv i).set rw_ j) ((Agr.set rfl).trans (.set rfl))
theorem snd_par3 (sh : Shp r) (se : SndE N D k r) (o : TxOk N D k W X Γ) {x y z : Str} {px py pz p pt pt2 : Pos} {kt k2 : Nat} {a b d : Expr} {cg ce : C F} {sl : List Nat} (h1 : trG (trStep r) Γ 6 (.Tuple [.Name x px, .Name y py, .Name z pz] kt pt) = some (cg, sl)) (h2 : trStep r Γ (.Tuple [a, b, d] k2 pt2) = some ce)
    (hx : Γ.sc.names.lookup x = some .local) (hy : Γ.sc.names.lookup y = some .local) (hz : Γ.sc.names.lookup z = some .local) (n1 : x ≠ y) (n2 : x ≠ z) (n3 : y ≠ z) (hw : swappedStores [.Tuple [.Name x px, .Name y py, .Name z pz] kt pt] (.Tuple [a, b, d] k2 pt2) X.env = pure (some [x, y, z])) :
    PS X (.Assign [.Tuple [.Name x px, .Name y py, .Name z pz] kt pt] (.Tuple [a, b, d] k2 pt2) p) (tOfS N W nsT (eS D k (.asg cg ce))) := by
  obtain ⟨cs, rfl, g1⟩ := trG_tup h1
  obtain ⟨c1, s1, cr1, t1, g2, g3, rfl⟩ := trGs_cons g1
  obtain ⟨c2, s2, cr2, t2, g4, g5, rfl⟩ := trGs_cons g3
  obtain ⟨c3, s3, cr3, t3, g7, g8, rfl⟩ := trGs_cons g5
  obtain ⟨i, rfl, e1⟩ := trG_names g2
  obtain ⟨j, rfl, e2⟩ := trG_names g4
  obtain ⟨l, rfl, e3⟩ := trG_names g7
  have : cr3 = [] := by
    unfold trG.trGs at g8
    cases g8
    rfl
  subst this
  obtain ⟨cs, rfl, g6⟩ := trStep_tup h2
  refine (ps_par3 o.calm (by rw [o.nms]; exact o.nd) (by rw [o.nms]; exact e1) (by rw [o.nms]; exact e2) (by rw [o.nms]; exact e3) (ix_ne e1 e2 n1) (ix_ne e1 e3 n2) (ix_ne e2 e3 n3) (by rw [o.sc]; exact hx) (by rw [o.sc]; exact hy) (by rw [o.sc]; exact hz) (snd_L sh se o g6) hw rfl).imp fun D' σ H q => ?_
  obtain ⟨L, ρ, h, σT, S, E, o⟩ := tup_reads q
  refine ⟨L, ρ, h, σT, S, E, o.imp fun vs H1 ⟨L, ρ, h, σT, xs, S, E, rr, el, o⟩ => ?_⟩
  match xs, el, rr, o with
  | [t, u, q], _, rr, o =>
    obtain ⟨v, zs, rfl, rv, w, zs2, rfl, rw_, v3, zs3, rfl, r3, e0⟩ := rr
    cases (show zs3 = [] from e0)
    refine ⟨v, w, v3, rfl, ?_⟩
    have o : Out N (RF N σ nsT) (WS nsT W σ) L ρ H1 (bnd (bnd (if i < σT.length then ret (σT.set i (some t)) else no) fun σ' => bnd (if j < σ'.length then ret (σ'.set j (some u)) else no) fun σ'' => bnd (if l < σ''.length then ret (σ''.set l (some q)) else no) fun σ3 => ret σ3) (fun σ' => ret (.nx, σ')) h) (Dk D') := o
    rw [bnd_assoc, bnd_ite] at o
    obtain ⟨_, o⟩ := o.iteN
    have o : Out N (RF N σ nsT) (WS nsT W σ) L ρ H1 (bnd (bnd (if j < (σT.set i (some t)).length then ret ((σT.set i (some t)).set j (some u)) else no) fun σ'' => bnd (if l < σ''.length then ret (σ''.set l (some q)) else no) fun σ3 => ret σ3) (fun σ' => ret (.nx, σ')) h) (Dk D') := o
    rw [bnd_assoc, bnd_ite] at o
    obtain ⟨_, o⟩ := o.iteN
    have o : Out N (RF N σ nsT) (WS nsT W σ) L ρ H1 (bnd (bnd (if l < ((σT.set i (some t)).set j (some u)).length then ret (((σT.set i (some t)).set j (some u)).set l (some q)) else no) fun σ3 => ret σ3) (fun σ' => ret (.nx, σ')) h) (Dk D') := o
    rw [bnd_assoc, bnd_ite] at o
    obtain ⟨_, o⟩ := o.iteN
    exact o.nx S (((E.set rv i).set rw_ j).set r3 l) (((Agr.set rfl).trans (.set rfl)).trans (.set rfl))
theorem swL_ok {env : PySem.Env} {sc : Scope} {t : Str} {pos p : Pos} {elt : Expr} {gens : List Comprehension} {s : Scope} {l : Nat} (hs : env.scope = sc) (hk : sc.kind = .function) :
    swapsWith (.ListComp elt gens s p) (some (.Name t pos)) l env = pure (swL sc (.Name t pos) (.ListComp elt gens s p)) := by
  have hb : env.blockKind = .function := by unfold Env.blockKind; rw [hs, hk]; rfl
  unfold swapsWith swL Env.kindOf
  rw [hb, hs]
  rfl
theorem lcs_ok {e : Expr} {p : Pos} {tg : Expr} {env : PySem.Env} (h : isLc e = false) : swapsWithSole [tg] e p.line env = pure false := lc_not h
/-- a store -/
theorem snd_asg (sh : Shp r) (se : SndE N D k r) (st : SndT N D k r) (sh' : Shp (trStep r)) (se' : SndE N D k (trStep r)) (o : TxOk N D k W X Γ) {tg e : Expr} {p : Pos} {c : S F} (h : trAsg (trStep r) Γ tg e = some c) : PS X (.Assign [tg] e p) (tOfS N W nsT (eS D k c)) := by
  unfold trAsg at h
  cases w1 : trG (trStep r) Γ 6 tg with
  | none => rw [w1] at h; cases h
  | some pg =>
    obtain ⟨cg, sl⟩ := pg
    cases w2 : trStep r Γ e with
    | none => rw [w1, w2] at h; cases h
    | some ce =>
      rw [w1, w2] at h
      dsimp only at h
      split at h
      · rename_i ts kt pt vs k2 pt2
        cases w3 : swT Γ.sc ts vs with
        | none => rw [w3] at h; cases h
        | some on =>
          have hw := fun q1 q2 p1 p2 => swT_ok (k1 := q1) (k2 := q2) (p1 := p1) (p2 := p2) o.sc o.kind w3
          rw [w3] at h
          cases on with
          | none =>
            cases h
            exact snd_asg0 sh' se' o w1 w2 rfl (hw _ _ _ _)
          | some nms =>
            dsimp only at h
            split at h
            · rename_i x px y py a b x' y'
              split at h
              · rename_i hc
                obtain ⟨rfl, rfl, h1, h2, h3⟩ := hc
                cases h
                exact snd_par2 sh se o w1 w2 h1 h2 h3 (hw _ _ _ _)
              · cases h
            · rename_i x px y py z pz a b d x' y' z'
              split at h
              · rename_i hc
                obtain ⟨rfl, rfl, rfl, h1, h2, h3, n1, n2, n3⟩ := hc
                cases h
                exact snd_par3 sh se o w1 w2 h1 h2 h3 n1 n2 n3 (hw _ _ _ _)
              · cases h
            · cases h
      · rename_i hne
        cases h
        have hw : swappedStores [tg] e X.env = pure none := by
          cases tg <;> first
            | rfl
            | (cases e <;> first | rfl | exact (hne _ _ _ _ _ _ rfl rfl).elim)
            | cases w1
        by_cases hl : isLc e = true
        · cases e with
          | ListComp elt gens scope lp =>
            cases tg with
            | Name x px =>
              have hq := swL_ok (t := x) (pos := px) (p := lp) (elt := elt) (gens := gens) (s := scope) (l := p.line) o.sc o.kind
              cases hb : swL Γ.sc (.Name x px) (.ListComp elt gens scope lp) with
              | true =>
                rw [hb] at hq
                have hb' := hb
                unfold swL at hb'
                simp only [Bool.and_eq_true, beq_iff_eq] at hb'
                exact snd_setLc sh se st o (show trG r Γ 6 (.Name x px) = some (cg, sl) from w1) (show trComp r Γ elt scope lp gens = some ce from w2) hb'.1.1 hq
              | false =>
                rw [hb] at hq
                exact snd_asg0 sh' se' o w1 w2 hq hw
            | _ => exact snd_asg0 sh' se' o w1 w2 rfl hw
          | SetComp _ _ _ _ => cases w2
          | DictComp _ _ _ _ _ => cases w2
          | _ => cases hl
        · have hl' : isLc e = false := by
            cases q : isLc e with
            | true => exact (hl q).elim
            | false => rfl
          exact snd_asg0 sh' se' o w1 w2 (lcs_ok hl') hw
/-- one statement; many -/
theorem snd_SS (hp : PassesOwn (model X.prog X.w) X.A X.env X.xe) (sh : Shp r) (se : SndE N D k r) (st : SndT N D k r) (sh' : Shp (trStep r)) (se' : SndE N D k (trStep r)) (st' : SndT N D k (trStep r)) (o : TxOk N D k W X Γ) {rs : List Stmt → Option (List (S F))}
    (hrs : ∀ (ss : List Stmt) (cs : List (S F)), rs ss = some cs → PSs X ss (tOfS N W nsT (eSs D k cs))) {s : Stmt} {c : S F} (h : trSS (trStep r) Γ rs s = some c) : PS X s (tOfS N W nsT (eS D k c)) := by
  cases s with
  | Pass p => cases h; exact ps_tpass
  | Expr e p =>
    have pl : ∀ {e : Expr}, (if isLc e = true then none else (trStep r Γ e).map S.expr) = some c → PS X (.Expr e p) (tOfS N W nsT (eS D k c)) := fun {e} h => by
      by_cases hl : isLc e = true
      · rw [if_pos hl] at h; cases h
      · rw [if_neg hl] at h
        cases w : trStep r Γ e with
        | none => rw [w] at h; cases h
        | some ce =>
          rw [w] at h
          cases h
          exact ps_texpr (se' _ _ _ o _ _ w) (lc_not (by
            cases q : isLc e with
            | true => exact (hl q).elim
            | false => rfl))
    cases e with
    | Constant v kk p2 =>
      cases v with
      | str x => cases h; exact ps_tdoc
      | _ => exact pl h
    | _ => exact pl h
  | Return e p =>
    cases e with
    | none => cases h; exact ps_tretN
    | some e =>
      have h : (trStep r Γ e).map S.ret = some c := h
      cases w : trStep r Γ e with
      | none => rw [w] at h; cases h
      | some ce => rw [w] at h; cases h; exact ps_tret (se' _ _ _ o _ _ w)
  | If q a b p =>
    have h : (match trStep r Γ q, rs a, rs b with
      | some cc, some ca, some cb => some (S.iff cc ca cb)
      | _, _, _ => none) = some c := h
    cases w1 : trStep r Γ q with
    | none => rw [w1] at h; cases h
    | some cc =>
      cases w2 : rs a with
      | none => rw [w1, w2] at h; cases h
      | some ca =>
        cases w3 : rs b with
        | none => rw [w1, w2, w3] at h; cases h
        | some cb =>
          rw [w1, w2, w3] at h
          cases h
          exact ps_tif (st' _ _ _ o _ _ w1) (hrs _ _ w2) (hrs _ _ w3)
  | While q b els p =>
    unfold trSS at h
    dsimp only at h
    cases els with
    | cons _ _ => cases h
    | nil =>
      cases w1 : trStep r Γ q with
      | none => rw [w1] at h; cases h
      | some cc =>
        cases w2 : rs b with
        | none => rw [w1, w2] at h; cases h
        | some cb =>
          rw [w1, w2] at h
          cases h
          exact ps_twhile hp (st' _ _ _ o _ _ w1) (hrs _ _ w2) turns
  | For tg it b els p =>
    unfold trSS at h
    dsimp only at h
    cases els with
    | cons _ _ => cases h
    | nil =>
      cases w1 : trG (trStep r) Γ 6 tg with
      | none => rw [w1] at h; cases h
      | some pg =>
        obtain ⟨cg, sl⟩ := pg
        cases w2 : trI (trStep r) Γ tg it with
        | none => rw [w1, w2] at h; cases h
        | some ci =>
          cases w3 : rs b with
          | none => rw [w1, w2, w3] at h; cases h
          | some cb =>
            rw [w1, w2, w3] at h
            cases h
            obtain ⟨q1, q2⟩ := snd_I sh' se' o w2
            exact ps_tfor hp o.calm q1 (snd_G sh' se' o (ns := nsT) 6 tg cg sl w1 fun _ _ => rfl).1 (hrs _ _ w3) (fold_ok q2)
  | Assign tgs e p =>
    match tgs, h with
    | [tg], h => exact snd_asg sh se st sh' se' o h
    | [], h => cases h
    | _ :: _ :: _, h => cases h
  | AugAssign tg op e p =>
    cases tg with
    | Name x px =>
      have h : (if stOk Γ x = true then (match ixOf x Γ.nms, trStep r Γ e with
        | some i, some ce => (match op with
          | .Add => some (S.aug i .add ce)
          | .Sub => some (S.aug i .sub ce)
          | _ => none)
        | _, _ => none) else none) = some c := h
      by_cases hs : stOk Γ x = true
      · rw [if_pos hs] at h
        cases w1 : ixOf x Γ.nms with
        | none => rw [w1] at h; cases h
        | some i =>
          cases w2 : trStep r Γ e with
          | none => rw [w1, w2] at h; cases h
          | some ce =>
            rw [w1, w2] at h
            obtain ⟨h1, h2⟩ := st_ok o hs
            cases op with
            | Add =>
              cases h
              refine PSo (ps_taug (f := fun a b => a + b) (by rw [o.nms]; exact o.nd) (by rw [o.nms]; exact ixOf_some w1) h1 h2 rfl (se' _ _ _ o _ _ w2) ip_add) fun σ => ?_
              show bnd (ofO (σ[i]?.bind id)) _ = _
              congr 1
              funext u
              congr 1
              funext y
              congr 1
              cases u <;> cases y <;> rfl
            | Sub =>
              cases h
              refine PSo (ps_taug (f := fun a b => a - b) (by rw [o.nms]; exact o.nd) (by rw [o.nms]; exact ixOf_some w1) h1 h2 rfl (se' _ _ _ o _ _ w2) ip_sub) fun σ => ?_
              show bnd (ofO (σ[i]?.bind id)) _ = _
              congr 1
              funext u
              congr 1
              funext y
              congr 1
              cases u <;> cases y <;> rfl
            | _ => cases h
      · rw [if_neg hs] at h
        cases h
    | _ => cases h
  | Raise e q p => cases h; exact ps_tnever
  | _ => cases h
theorem snd_Ss (hp : PassesOwn (model X.prog X.w) X.A X.env X.xe) (sh : Shp r) (se : SndE N D k r) (st : SndT N D k r) (sh' : Shp (trStep r)) (se' : SndE N D k (trStep r)) (st' : SndT N D k (trStep r)) (o : TxOk N D k W X Γ) :
    ∀ (n : Nat) (ss : List Stmt) (cs : List (S F)), trSs (trStep r) Γ n ss = some cs → PSs X ss (tOfS N W nsT (eSs D k cs))
  | 0, _, _, h => by cases h
  | _ + 1, [], cs, h => by cases h; exact pss_tnil
  | n + 1, s :: ss, cs, h => by
    have h : (match trSS (trStep r) Γ (trSs (trStep r) Γ n) s, trSs (trStep r) Γ n ss with
      | some c, some cs => some (c :: cs)
      | _, _ => none) = some cs := h
    cases w1 : trSS (trStep r) Γ (trSs (trStep r) Γ n) s with
    | none => rw [w1] at h; cases h
    | some c =>
      cases w2 : trSs (trStep r) Γ n ss with
      | none => rw [w1, w2] at h; cases h
      | some cr =>
        rw [w1, w2] at h
        cases h
        exact pss_tcons (snd_SS hp sh se st sh' se' st' o (snd_Ss hp sh se st sh' se' st' o n) w1) (snd_Ss hp sh se st sh' se' st' o n ss cr w2)
end
end Mt

set_option maxHeartbeats 8000000
/-! Mt24: every def keeps the promise that its core makes. -/
namespace Mt
open PySem PySem.Spec PyProof.Rows L2
section
variable {F : Type} {N : Nm} {D : Pd F} {L : Al} {ρ : Ro} {H : Hp} {h : Sto} {E : XK} {Q : VK}
theorem out_pure {r : R T} (S : StoOk N L ρ H h) (o : Out N (RT N) E L ρ H (lift (fin 0 r) h) Q) : Out N (RT N) E (allL L ρ) ρ0 H r Q := by
  cases r with
  | no => exact o.no.elim
  | ok v h' =>
    refine .inl ⟨v, h', rfl, fun b H' ρ' st S' rb => ?_⟩
    have z : fin 0 (R.ok v h') = (match frz 0 h' v with
      | some v' => if (h'.take 0).all (cloO 0) then R.ok v' (h'.take 0) else .no
      | none => .no) := rfl
    cases w : frz 0 h' v with
    | none => rw [w] at z; rw [z] at o; exact o.no.elim
    | some v' =>
      rw [w] at z
      rw [z] at o
      obtain ⟨s1, S1⟩ := leave0 S st
      exact o.okD _ _ _ s1 S1 ((rst0 (L := L) (ρ := ρ) S').frz S' w rb)
  | ex v h' =>
    refine .inr ⟨v, h', rfl, fun c d H' ρ' st S' rb => ?_⟩
    have z : fin 0 (R.ex v h') = (match frz 0 h' v with
      | some v' => if (h'.take 0).all (cloO 0) then R.ex v' (h'.take 0) else .no
      | none => .no) := rfl
    cases w : frz 0 h' v with
    | none => rw [w] at z; rw [z] at o; exact o.no.elim
    | some v' =>
      rw [w] at z
      rw [z] at o
      obtain ⟨s1, S1⟩ := leave0 S st
      rcases o with ⟨_, _, e1, _⟩ | ⟨y, h3, e1, kk⟩
      · cases e1
      · cases e1
        exact kk _ _ _ _ s1 S1 ((rst0 (L := L) (ρ := ρ) S').frzX S' w rb)
theorem out_shared {r : R T} (S : StoOk N L ρ H h) (o : Out N (RT N) E L ρ H (fin h.length r) Q) : Out N (RT N) E L ρ H r Q := by
  cases r with
  | no => exact o.no.elim
  | ok v h' =>
    refine .inl ⟨v, h', rfl, fun b H' ρ' st S' rb => ?_⟩
    have z : fin h.length (R.ok v h') = (match frz h.length h' v with
      | some v' => if (h'.take h.length).all (cloO h.length) then R.ok v' (h'.take h.length) else .no
      | none => .no) := rfl
    cases w : frz h.length h' v with
    | none => rw [w] at z; rw [z] at o; exact o.no.elim
    | some v' =>
      rw [w] at z
      dsimp only at z
      by_cases c : (h'.take h.length).all (cloO h.length) = true
      · rw [if_pos c] at z
        rw [z] at o
        obtain ⟨s1, S1⟩ := leaveN S st S' c
        exact o.okD _ _ _ s1 S1 ((rstN S').frz S' w rb)
      · rw [if_neg c] at z
        rw [z] at o
        exact o.no.elim
  | ex v h' =>
    refine .inr ⟨v, h', rfl, fun cl d H' ρ' st S' rb => ?_⟩
    have z : fin h.length (R.ex v h') = (match frz h.length h' v with
      | some v' => if (h'.take h.length).all (cloO h.length) then R.ex v' (h'.take h.length) else .no
      | none => .no) := rfl
    cases w : frz h.length h' v with
    | none => rw [w] at z; rw [z] at o; exact o.no.elim
    | some v' =>
      rw [w] at z
      dsimp only at z
      by_cases c : (h'.take h.length).all (cloO h.length) = true
      · rw [if_pos c] at z
        rw [z] at o
        obtain ⟨s1, S1⟩ := leaveN S st S' c
        rcases o with ⟨_, _, e1, _⟩ | ⟨y, h3, e1, kk⟩
        · cases e1
        · cases e1
          exact kk _ _ _ _ s1 S1 ((rstN S').frzX S' w rb)
      · rw [if_neg c] at z
        rw [z] at o
        exact o.no.elim
/-- the body's own run -/
theorem callN_run {k : Nat} {f : F} {as : List T} {vs : List V} (S : StoOk N L ρ H h) (r : Reps N L ρ H as vs) (o : Out N (RT N) E L ρ H (callN D.P (k + 2) f as h) Q) :
    ∃ L ρ h, StoOk N L ρ H h ∧ Reps N L ρ H as vs ∧ Out N (RT N) E L ρ H (runB D.P (callN D.P (k + 1)) (makeN D.P (k + 1)) (D.P.fn f) as h) Q := by
  have o : Out N (RT N) E L ρ H ((match (D.P.fn f).mode with
    | .pure => if (frzWs (r0 0) as).isSome then lift (fin 0 (runB D.P (callN D.P (k + 1)) (makeN D.P (k + 1)) (D.P.fn f) as [])) else no
    | .shared => fun h => fin h.length (runB D.P (callN D.P (k + 1)) (makeN D.P (k + 1)) (D.P.fn f) as h)
    | .keep => runB D.P (callN D.P (k + 1)) (makeN D.P (k + 1)) (D.P.fn f) as) h) Q := o
  cases w : (D.P.fn f).mode with
  | pure =>
    rw [w] at o
    obtain ⟨c, o⟩ := o.iteN
    exact ⟨_, _, _, enter0 S, enter0_reps c r, out_pure S o⟩
  | shared =>
    rw [w] at o
    exact ⟨_, _, _, S, r, out_shared S o⟩
  | keep =>
    rw [w] at o
    exact ⟨_, _, _, S, r, o⟩
theorem start_rel {as : List T} {vs : List V} {nms : List Str} {n : Nat} (r : Reps N L ρ H as vs) (hn : n = nms.length - vs.length) : ERel N L ρ H (as.map some ++ List.replicate n none) (L2.start nms vs) := by
  unfold L2.start
  rw [← hn]
  refine ⟨by simp [r.length], fun i t e => ?_⟩
  by_cases hi : i < as.length
  · rw [List.getElem?_append_left (by simpa using hi), List.getElem?_map] at e
    cases w : as[i]? with
    | none => rw [w] at e; cases e
    | some u =>
      rw [w] at e
      cases e
      obtain ⟨v, h1, h2⟩ := r.get w
      refine ⟨v, ?_, h2⟩
      rw [List.getElem?_append_left (by rw [List.length_map, ← r.length]; exact hi), List.getElem?_map, h1]
      rfl
  · rw [List.getElem?_append_right (by simpa using hi), List.getElem?_replicate] at e
    split at e <;> cases e
theorem runB_reads {k : Nat} {f : F} {as : List T} {vs : List V} {nms : List Str} (S : StoOk N L ρ H h) (r : Reps N L ρ H as vs) (o : Out N (RT N) E L ρ H (runB D.P (callN D.P k) (makeN D.P k) (D.P.fn f) as h) Q) (hn : (D.P.fn f).nloc = nms.length - vs.length) :
    tOfS N (fun c d _ H => E c d H) nsT (eSs D k (D.P.fn f).body) { nx := fun _ H' => Q .non H', rt := Q } (L2.start nms vs) H := by
  unfold runB at o
  obtain ⟨_, o⟩ := o.iteN
  refine ⟨L, ρ, h, _, S, start_rel r hn, ((o.bnd (rl := RF N (L2.start nms vs) nsT)).wish fun c d H h σ' _ => h).imp fun b H' ⟨ρ1, x, h1, _, s1, S1, q, o1⟩ => ?_⟩
  obtain ⟨fl, σ1⟩ := x
  cases fl with
  | nx => cases b with
    | nx σ2 => exact o1.ret S1 (show Rep N L ρ1 H' .non .non from rfl)
    | rt v => exact q.elim
  | rt t => cases b with
    | nx σ2 => exact q.elim
    | rt v => exact o1.ret S1 q
theorem runB_len {k : Nat} {f : F} {as : List T} (o : Out N (RT N) E L ρ H (runB D.P (callN D.P k) (makeN D.P k) (D.P.fn f) as h) Q) : as.length = (D.P.fn f).arity := by
  unfold runB at o
  exact o.iteN.1
end
/-- the tables are true -/
structure GlO {F : Type} (N : Nm) (D : Pd F) (mg : Str → Option Value) (Γ : Tx F) : Prop where
  gfO : ∀ x f, Γ.gf x = some f → mg x = some (.ref (D.adr f))
  gcO : ∀ x c, Γ.gc x = some c → mg x = some (.ref (N.cadr c)) ∧ N.kc c
  giO : ∀ c, Γ.gi c = true → ∃ f, D.P.init c = some f
  ggO : ∀ x g, Γ.gg x = some g → ∃ t v u, D.P.glob g = some t ∧ mg x = some u ∧ RelV v u ∧ ∀ L ρ H, Rep N L ρ H t v
  nbO : ∀ x, Γ.nb x = true → mg x = none
  kfO : ∀ x i, Γ.kf x = some i → N.fnm i = x ∧ N.kf i
  kmO : ∀ x i, Γ.km x = some i → D.mnm i = x
  kkO : ∀ x i, Γ.kk x = some i → D.kwn i = x
  ok : PdOk N D
/-- the context of a def's body -/
def fnTx {F : Type} (Γ : Tx F) (nms : List Str) (scope : Scope) : Tx F := { Γ with nms := nms, sc := scope, fnb := none }
/-- a def stands as its core says -/
structure DfOk {F : Type} (N : Nm) (D : Pd F) (Γ : Tx F) (f : F) (x qual : Str) (params : Arguments) (body : List Stmt) (scope : Scope) (dvs : List V) (kws : List (Str × V)) (nms : List Str) : Prop where
  fn : FunD N.K x qual params body scope dvs kws (D.adr f) (D.fd f)
  sc : FnScope nms (D.ps f) scope
  nl : (D.P.fn f).nloc = nms.length - (D.ps f).length
  tr : trSs (trE 40) (fnTx Γ nms scope) 100 body = some (D.P.fn f).body
section
variable {F : Type} {N : Nm} {D : Pd F} {Γ : Tx F} {P : Program} {w : World} {mg : Str → Option Value} {base : Heap}
theorem fn_step (g : GlO N D mg Γ) {f : F} {x qual : Str} {params : Arguments} {body : List Stmt} {scope : Scope} {dvs : List V} {kws : List (Str × V)} {nms : List Str} (d : DfOk N D Γ f x qual params body scope dvs kws nms) {k : Nat}
    (ih : ∀ j, j ≤ k + 1 → ∀ f, FnG P w N.K mg base j (D.adr f) (D.fd f) (D.ps f) (spF N D.P j f)) : FnG P w N.K mg base (k + 2) (D.adr f) (D.fd f) (D.ps f) (spF N D.P (k + 2) f) := by
  obtain ⟨oc, od, dV, kV, doc, pm, an, cdv, ct, osl, hfd, lk, hcd, _, _⟩ := d.fn.ex
  rw [hfd] at lk ⊢
  refine fn_ofG lk hcd d.sc (fun vs H Q E ⟨L, ρ, h, as, S, r, o⟩ => ?_) fun A outer s H vs Q E hr hgd ⟨L, ρ, h, as, S, r, o⟩ => ?_
  · obtain ⟨L, ρ, h, S, r, o⟩ := callN_run S r o
    rw [← r.length, runB_len o, g.ok.ar f]
  · obtain ⟨L, ρ, h, S, r, o⟩ := callN_run S r o
    have hl : vs.length = (D.ps f).length := by rw [← r.length, runB_len o, g.ok.ar f]
    refine ⟨_, ?_, runB_reads (nms := nms) S r o (by rw [hl]; exact d.nl)⟩
    have tk : L2N.Takes (cxOf (L2N.CX P w) P w N.K mg base nms qual scope (D.adr f) cdv A outer s H E) (fun c d _ H => E c d H) := L2N.takes_of rfl rfl rfl rfl
    have to : TxOk N D (k + 1) (fun c d _ H => E c d H) (cxOf (L2N.CX P w) P w N.K mg base nms qual scope (D.adr f) cdv A outer s H E) (fnTx Γ nms scope) := {
      hK := rfl
      nms := rfl
      nd := d.sc.nd
      sc := rfl
      kind := d.sc.kind
      calm := rfl
      room := hr
      gd := hgd
      fn := fun _ _ => rfl
      gfO := g.gfO
      gcO := g.gcO
      giO := g.giO
      ggO := g.ggO
      nbO := g.nbO
      kfO := g.kfO
      kmO := g.kmO
      kkO := g.kkO
      FG := ih
      ok := g.ok
      pass := fun σ => L2N.passAt tk σ }
    obtain ⟨se, st, _⟩ := snd_all (N := N) (D := D) (k := k + 1) rfl 39
    obtain ⟨se', st', _⟩ := snd_all (N := N) (D := D) (k := k + 1) rfl 40
    exact snd_Ss (passes_of rfl) (shp 39) se st (shp 40) se' st' to 100 body _ d.tr
/-- THE WHOLE: every def, at every depth -/
theorem all_fn (g : GlO N D mg Γ) (d : ∀ f, ∃ x qual params body scope dvs kws nms, DfOk N D Γ f x qual params body scope dvs kws nms) : ∀ k f, FnG P w N.K mg base k (D.adr f) (D.fd f) (D.ps f) (spF N D.P k f) := by
  have nope : ∀ j, j ≤ 1 → ∀ f, FnG P w N.K mg base j (D.adr f) (D.fd f) (D.ps f) (spF N D.P j f) := fun j hj f => by
    have z : ∀ vs H Q E, ¬ spF N D.P j f vs H Q E := fun vs H Q E ⟨L, ρ, h, as, S, r, o⟩ => by
      match j, hj, o with
      | 0, _, o => exact o.no
      | 1, _, o => exact o.no
    exact ⟨fun vs H Q E h => (z vs H Q E h).elim, fun A outer s H args us vs Q E _ _ _ _ _ h => (z vs H Q E h).elim⟩
  have all : ∀ k, ∀ j, j ≤ k → ∀ f, FnG P w N.K mg base j (D.adr f) (D.fd f) (D.ps f) (spF N D.P j f) := by
    intro k
    induction k with
    | zero => exact fun j hj => nope j (by omega)
    | succ k ih =>
      intro j hj f
      by_cases h1 : j ≤ 1
      · exact nope j h1 f
      · by_cases h2 : j ≤ k
        · exact ih j h2 f
        · obtain ⟨i, rfl⟩ : ∃ i, j = i + 2 := ⟨j - 2, by omega⟩
          obtain ⟨x, qual, params, body, scope, dvs, kws, nms, df⟩ := d f
          exact fn_step g df fun j' hj' => ih j' (by omega)
  exact fun k f => all k k (Nat.le_refl _) f
end
end Mt

set_option maxHeartbeats 8000000
/-! Mt25: a law's end. -/
namespace Mt
open PySem PySem.Spec PyProof.Rows L2
theorem law_callG {P : Program} {w : World} {K : PySem.W.Frag} {mg mb : Str → Option Value} {k : Nat} {fa a : Addr} {fd : FuncData} {x : Str} {sp : Sp} {s₁ : Shared} {vs : List Value} {ns : List Int}
    (KX : K.In s₁.heap) (hns : s₁.heap.Ns mainGlobals mg) (hb : s₁.heap.Ns builtinsNs mb) (hbb : ∀ x : Str, x ≠ "__name__" → mb x = bootBuiltins x) (hlim : s₁.heap.NoLimit) (hg : s₁.gens = #[])
    (ha : s₁.heap.get? a = some { cls := .type "list", data := .seq vs.toArray }) (hi : IntsAre vs ns) (hl : ns.length ≤ sizeLine) (hr : Room k callerA)
    (F : ∀ base : Heap, K.In base → base.Ns mainGlobals mg → FnG P w K mg base k fa fd [x] sp) (hbind : ∀ (s : Shared) (u : Value), BindsTo s fd ⟨[u], []⟩ [(x, u)])
    (hsp : ∀ H : Hp, Only H → ScrL K H a (ns.map V.int) → sp [.ref a] H (fun v _ => v = .bl true) fun _ _ _ => False) :
    codeAny (model P w) callerA (.call (.ref fa) ⟨[.ref a], []⟩) (fun r s' => r = .ok (.ret (.bool true)) ∧ OldK s₁.heap s'.heap ∧ s'.os = s₁.os ∧ AllBare s'.gens) s₁ := by
  have rv := vals_ints hi
  have lenV := hi.length
  have core : ∀ H : Hp, Only H → ScrL K H a (ns.map V.int) → HOk P w H s₁.heap → (∀ b, H b ≠ none → b = a) → (H a ≠ none → K.lookup a = none) →
      codeAny (model P w) callerA (.call (.ref fa) ⟨[.ref a], []⟩) (fun r s' => r = .ok (.ret (.bool true)) ∧ OldK s₁.heap s'.heap ∧ s'.os = s₁.os ∧ AllBare s'.gens) s₁ := by
    intro H hO hS hok hA hK
    have base_of : ∀ {b : Addr} {o : Obj}, s₁.heap.get? b = some o → H b = none → (hidT s₁.heap H).get? b = some o := fun e n => hidT_get e n
    have noA : ∀ {b : Addr} {o : Obj} {es : Array DictEntry} {ep : Nat}, s₁.heap.get? b = some o → o.data = .dict es ep → H b = none := fun {b o es ep} e d => by
      cases q : H b with
      | none => rfl
      | some u =>
        have e' : b = a := hA b (by rw [q]; simp)
        subst e'
        rw [ha] at e; cases e
        have d' : Data.seq vs.toArray _ = Data.dict es ep := d
        cases d'
    have nsK : ∀ {b : Addr} {m : Str → Option Value}, s₁.heap.Ns b m → (hidT s₁.heap H).Ns b m := fun {b m} ⟨o, es, ep, e, d, r⟩ => ⟨o, es, ep, base_of e (noA e d), d, r⟩
    have hKb : K.In (hidT s₁.heap H) := fun b o e => base_of (KX b o e) (by
      cases q : H b with
      | none => rfl
      | some u =>
        have e' : b = a := hA b (by rw [q]; simp)
        subst e'
        rw [hK (by rw [q]; simp)] at e; cases e)
    have hM : Mod K mg (hidT s₁.heap H) := ⟨hKb, nsK hns, ⟨mb, nsK hb, hbb⟩, let ⟨mc, h1, h2⟩ := hlim; ⟨mc, nsK h1, h2⟩⟩
    have e0 : Env0 P w K mg (hidT s₁.heap H) callerA [] s₁ H := ⟨rfl, hM, fun b o e => of_hidT e, Nat.le_of_eq (hidT_size _ _), trivial, fun b hb => absurd (show b ∈ ([] : List Addr) from hb) (by simp), hok, .of_eq hg⟩
    refine codeAny_mono ((F _ hKb (nsK hns)).run callerA [] s₁ H ⟨[.ref a], []⟩ [.ref a] [.ref a] _ _ hr rfl e0 (hbind s₁ (.ref a)) (.cons rfl .nil) (hsp H hO hS)) fun r s' h => ?_
    cases r with
    | error e =>
      obtain ⟨_, _, _, _, _, _, _, _, _, _, _, _, z⟩ := h
      exact z.elim
    | ok fl =>
      cases fl with
      | next => exact False.elim h
      | brk => exact False.elim h
      | cont => exact False.elim h
      | ret u =>
        obtain ⟨v, H', os, bare, un, hok', r', q⟩ := h
        have q' : v = .bl true := q
        subst q'
        obtain rfl : u = Value.bool true := r'
        refine ⟨rfl, OldK.of_keep fun b o e => ?_, os, bare⟩
        cases q : H b with
        | none => exact un.keep b o e q (by intro z; exact absurd (show b ∈ ([] : List Addr) from z) (by simp)) (by simp)
        | some u =>
          rcases hO b with z | ⟨ob, xs, z⟩
          · rw [q] at z; cases z
          · have z2 := un.frzs b ob _ z
            obtain ⟨e1, _⟩ := hok b _ z
            obtain ⟨e2, _⟩ := hok' b _ z2
            rw [e] at e1; cases e1
            exact e2
  cases hk : K.lookup a with
  | some o =>
    have e := KX a o hk
    rw [ha] at e
    cases e
    refine core (fun _ => none) (fun _ => .inl rfl) (.inr ⟨_, vs.toArray, _, hk, rfl, rfl, rfl, by rw [List.size_toArray, lenV]; exact hl, by simpa using rv⟩) (fun b u z => by have z' : (none : Option HO) = some u := z; cases z') (fun b z => absurd rfl z) fun z => absurd rfl z
  | none =>
    refine core (fun b => if b = a then some (.frz { cls := .type "list", data := .seq vs.toArray } (.lst (ns.map V.int))) else none) (fun b => ?_) (.inl ⟨{ cls := .type "list", data := .seq vs.toArray }, if_pos rfl⟩) (fun b u z => ?_) (fun b z => ?_) fun _ => hk
    · by_cases hb : b = a
      · exact .inr ⟨_, _, if_pos hb⟩
      · exact .inl (if_neg hb)
    · by_cases hb : b = a
      · have z' := (if_pos hb).symm.trans z
        cases z'
        subst hb
        exact ⟨ha, by rw [List.length_map]; exact hl, vs, _, rv, ha⟩
      · have z' := (if_neg hb).symm.trans z
        cases z'
    · by_cases hb : b = a
      · exact hb
      · exact absurd (if_neg hb) z
theorem walk_ofG {l : PySem.W.OpenLaw} {n k : Nat} {q : Program} {loose : List Str} {XP : (Str → Option Value) → Heap → Prop} {YP : World → Heap → Prop} {d : DefRec} {x : Str}
    (hn : l.most = some n) (hn2 : n ≤ sizeLine) (hdf : d.params.defaults = []) (hr : Room k callerA)
    (F : ∀ (w : World) (mg : Str → Option Value) (fa : Addr) (h : Heap), YP w h → h.Ns mainGlobals mg → mg d.name = some (.ref fa) →
      ∃ (K : PySem.W.Frag) (fd : FuncData) (sp : Sp), K.In h ∧ (∀ (s : Shared) (u : Value), BindsTo s fd ⟨[u], []⟩ [(x, u)]) ∧
        (∀ (H : Hp) (a : Addr) (ns : List Int), ns.length ≤ n → Only H → ScrL K H a (ns.map V.int) → sp [.ref a] H (fun v _ => v = .bl true) fun _ _ _ => False) ∧
        ∀ base : Heap, K.In base → base.Ns mainGlobals mg → FnG l.prog w K mg base k fa fd [x] sp) :
    PySem.W.WalkO q loose XP YP l.row.toRowW d [] (fun f vs => PySem.call f vs) := by
  refine Att.attach_call hn hdf fun w s₀ s₁ mg mb fa o pm cd doc a vs ns G Y ho hd hcd hmg hobj hints hlen hg => ?_
  obtain ⟨K, fd, sp, KX, hb, hsp, hF⟩ := F w mg fa _ Y G.T.g hmg
  exact law_callG KX G.T.g G.T.b G.T.builtins G.T.nolimit hg hobj hints (Nat.le_trans hlen hn2) hr hF hb fun H hO hS => hsp H a ns hlen hO hS
/-- the law's promise, from its mirror -/
theorem law_sp {F : Type} {N : Nm} {D : Pd F} {k : Nat} {f : F} {H : Hp} {a : Addr} {ns : List Int} (h0 : ScrL N.K H a (ns.map V.int)) (h : ∃ h', callN D.P k f [.scr ns] [] = .ok (.bl true) h') : spF N D.P k f [.ref a] H (fun v _ => v = .bl true) fun _ _ _ => False := by
  obtain ⟨h', e⟩ := h
  refine ⟨fun _ => False, ρ0, [], [.scr ns], { inj := (fun _ _ _ e _ => nomatch e), dom := (fun _ _ e => nomatch e), obj := (fun i o e => nomatch e), out := (fun _ l => False.elim l) }, ⟨_, _, rfl, ⟨a, rfl, h0⟩, rfl⟩, .inl ⟨_, h', e, fun b H' ρ' s S r => r⟩⟩
end Mt

set_option maxHeartbeats 8000000
/-! Mt26: the head: what the written part holds, by tables. -/
namespace Mt
open PySem PySem.Spec PyProof.Rows L2

/-! ### the Hook -/
def obsM (ex : PySem.W.Frag → Bool) (fa : List He.Fa) (fn : List He.DefD) (K : PySem.W.Frag) : He.AlD := ((fa.all fun f => f.ok K) && ((fn.all fun d => d.ok K) && ex K), fn.map fun d => He.fnW K d.at_)
def SaysM (ex : PySem.W.Frag → Bool) (fa : List He.Fa) (fn : List He.DefD) (K : PySem.W.Frag) : Prop := obsM ex fa fn K = He.valD fn
def obsMG (n : Nat) (ex : PySem.W.Frag → Bool) (fa : List He.Fa) (fn : List He.DefD) (g : Addr → Option Obj) : He.AlD := obsM ex fa fn (He.frG g (He.asD g n))
def hookM (n : Nat) (ex : PySem.W.Frag → Bool) (fa : List He.Fa) (fn : List He.DefD) : PySem.W.Hook where
  α := He.AlD
  obs := fun s => obsMG n ex fa fn s.heap.get?
  val := fun _ => He.valD fn
  says := fun _ h => ∃ K : PySem.W.Frag, K.In h ∧ SaysM ex fa fn K
  of := fun _ _ e => ⟨_, He.frG_in, e⟩
  keeps := fun _ _ _ ⟨K, hK, c⟩ k => ⟨K, PySem.W.Frag.In.keeps hK k, c⟩
theorem obsMG_eq {n : Nat} {ex : PySem.W.Frag → Bool} {fa : List He.Fa} {fn : List He.DefD} {g : Addr → Option Obj} {s : Shared} (h : ∀ a, g a = s.heap.get? a) : obsMG n ex fa fn g = (hookM n ex fa fn).obs s := by
  have e : g = s.heap.get? := funext h
  rw [e] <;> rfl
section
variable {ex : PySem.W.Frag → Bool} {fa : List He.Fa} {fn : List He.DefD} {K : PySem.W.Frag}
theorem SaysM.all (c : SaysM ex fa fn K) : (∀ f ∈ fa, f.ok K = true) ∧ (∀ d ∈ fn, d.ok K = true) ∧ ex K = true := by
  have c1 : ((fa.all fun f => f.ok K) && ((fn.all fun d => d.ok K) && ex K)) = true := congrArg (fun z : He.AlD => z.1) c
  obtain ⟨h1, h2⟩ := He.ba c1
  obtain ⟨h3, h4⟩ := He.ba h2
  exact ⟨List.all_eq_true.mp h1, List.all_eq_true.mp h3, h4⟩
theorem SaysM.def_ (c : SaysM ex fa fn K) {i : Nat} {d : He.DefD} (h : fn[i]? = some d) : ∃ fd, FunD K d.name d.qual d.params d.body d.scope (d.dvs K) (d.kws K) (He.fAd K d.at_) fd := by
  have e : fn.map (fun d => He.fnW K d.at_) = fn.map He.DefD.val := congrArg (fun z : He.AlD => z.2) c
  have e2 : (fn.map fun d => He.fnW K d.at_)[i]? = (fn.map He.DefD.val)[i]? := by rw [e]
  rw [List.getElem?_map, List.getElem?_map, h] at e2
  exact He.DefD.funD (Option.some.inj e2) (c.all.2.1 d (List.mem_of_getElem? h))
end
/-! ### names by tables -/
/-- the i-th name; beyond the table a name that no text has -/
def nmAt (k : Nat) (l : List Str) (i : Nat) : Str := match l[i]? with
  | some x => x
  | none => ⟨#[0, k, i]⟩
def nmOk (l : List Str) : Bool := decide l.Nodup && l.all fun x => !(x.cps[0]? == some 0)
theorem nmAt_lt {k : Nat} {l : List Str} {i : Nat} {x : Str} (h : l[i]? = some x) : nmAt k l i = x := by unfold nmAt; rw [h]
theorem nm_head {k : Nat} {l : List Str} {i : Nat} (h : nmOk l = true) : (l[i]? = none ∧ (nmAt k l i).cps[0]? = some 0) ∨ ∃ x, l[i]? = some x ∧ nmAt k l i = x ∧ ¬ x.cps[0]? = some 0 := by
  unfold nmOk at h
  simp only [Bool.and_eq_true, decide_eq_true_eq, List.all_eq_true, Bool.not_eq_true', beq_eq_false_iff_ne] at h
  cases q : l[i]? with
  | none => exact .inl ⟨rfl, by unfold nmAt; rw [q]; rfl⟩
  | some x => exact .inr ⟨x, rfl, nmAt_lt q, h.2 x (List.mem_of_getElem? q)⟩
theorem nmAt_inj {k : Nat} {l : List Str} (h : nmOk l = true) : ∀ i j, nmAt k l i = nmAt k l j → i = j := fun i j e => by
  have nd : l.Nodup := by
    unfold nmOk at h
    simp only [Bool.and_eq_true, decide_eq_true_eq] at h
    exact h.1
  rcases nm_head (k := k) (i := i) h with ⟨q1, q2⟩ | ⟨x, q1, q2, q3⟩
  · rcases nm_head (k := k) (i := j) h with ⟨p1, p2⟩ | ⟨y, p1, p2, p3⟩
    · unfold nmAt at e
      rw [q1, p1] at e
      have e' : (⟨#[0, k, i]⟩ : Str) = ⟨#[0, k, j]⟩ := e
      injection e' with e'
      injection e' with e'
      injection e' with _ e'
      injection e' with _ e'
      injection e' with e' _
    · rw [e, p2] at q2
      exact (p3 q2).elim
  · rcases nm_head (k := k) (i := j) h with ⟨p1, p2⟩ | ⟨y, p1, p2, p3⟩
    · rw [← e, q2] at p2
      exact (q3 p2).elim
    · rw [q2, p2] at e
      subst e
      exact nodup_ix nd q1 p1
theorem nm_apart {l m : List Str} (h1 : nmOk l = true) (h2 : nmOk m = true) (h : (l.all fun x => !m.contains x) = true) : ∀ i j, nmAt 1 l i ≠ nmAt 2 m j := fun i j e => by
  rcases nm_head (k := 1) (i := i) h1 with ⟨q1, q2⟩ | ⟨x, q1, q2, q3⟩
  · rcases nm_head (k := 2) (i := j) h2 with ⟨p1, p2⟩ | ⟨y, p1, p2, p3⟩
    · unfold nmAt at e
      rw [q1, p1] at e
      have e' : (⟨#[0, 1, i]⟩ : Str) = ⟨#[0, 2, j]⟩ := e
      injection e' with e'
      injection e' with e'
      injection e' with _ e'
      injection e' with e' _
      cases e'
    · rw [e, p2] at q2
      exact p3 q2
  · rcases nm_head (k := 2) (i := j) h2 with ⟨p1, p2⟩ | ⟨y, p1, p2, p3⟩
    · rw [← e, q2] at p2
      exact q3 p2
    · rw [q2, p2] at e
      subst e
      have := List.all_eq_true.mp h x (List.mem_of_getElem? q1)
      simp only [Bool.not_eq_true', List.contains_eq_mem, decide_eq_false_iff_not] at this
      exact this (List.mem_of_getElem? p1)
end Mt

set_option maxHeartbeats 8000000
/-! Mt27: a law's program as tables; what the head's facts give. -/
namespace Mt
open PySem PySem.Spec PyProof.Rows L2

/-! ### classes -/
def clsB (K : PySem.W.Frag) (x : Str) : Bool := (PySem.W.clsIn K (He.ga K x)).isSome && decide (PySem.W.typeIn K (.ref (He.ga K x)) = some (.type "type"))
def tyNms : List String := ["int", "bool", "str", "tuple", "list", "dict", "bytes"]
def insB (K : PySem.W.Frag) (x : Str) : Bool := (He.Fa.cls x).ok K && (He.eqO (PySem.W.findIn K (.ref (He.ga K x)) "__class__") (some (some (.builtin "object.__class__"))) &&
  (decide (PySem.W.specialIn K (.builtin "object.__class__") "__get__" = some (some (.builtin "getset_descriptor.__get__"))) && (decide (PySem.W.takesIn K (.builtin "object.__class__") = some true) &&
    ((tyNms.all fun n => decide (PySem.W.kitOne K (.ref (He.ga K x)) (.type n) = some false)) && decide (PySem.W.mroIn K (He.ga K x) (.type "object") = some true)))))
def mroB (K : PySem.W.Frag) (x y : Str) : Bool := decide (PySem.W.kitOne K (.ref (He.ga K x)) (.ref (He.ga K y)) = some false)
def cnA (cn : List Str) (c : Nat) : Str := cn.getD c Str.empty
def exM (cn : List Str) (ki : List Nat) (fT : List Str) (K : PySem.W.Frag) : Bool :=
  ((List.range cn.length).all fun c => clsB K (cnA cn c)) && ((ki.all fun c => insB K (cnA cn c) && (fT.all fun f => (He.Fa.noat (cnA cn c) f).ok K)) &&
    ki.all fun c => (List.range cn.length).all fun d => decide (c = d) || mroB K (cnA cn c) (cnA cn d))
section
variable {K : PySem.W.Frag} {cn : List Str} {ki : List Nat} {fT : List Str}
theorem exM_all (h : exM cn ki fT K = true) : (∀ c, c < cn.length → clsB K (cnA cn c) = true) ∧ (∀ c ∈ ki, insB K (cnA cn c) = true ∧ ∀ f ∈ fT, (He.Fa.noat (cnA cn c) f).ok K = true) ∧ ∀ c ∈ ki, ∀ d, d < cn.length → c ≠ d → mroB K (cnA cn c) (cnA cn d) = true := by
  unfold exM at h
  simp only [Bool.and_eq_true, List.all_eq_true, List.mem_range, Bool.or_eq_true, decide_eq_true_eq] at h
  obtain ⟨h1, h2, h3⟩ := h
  exact ⟨h1, h2, fun c hc d hd ne => (h3 c hc d hd).resolve_left ne⟩
/-- the names of the written part -/
def nmOf (K : PySem.W.Frag) (cn : List Str) (ki : List Nat) (fT : List Str) (h : exM cn ki fT K = true) (hf : nmOk fT = true) : Nm where
  K := K
  cadr := fun c => He.ga K (cnA cn c)
  fnm := nmAt 1 fT
  fnj := nmAt_inj hf
  kc := fun c => c < cn.length
  ki := fun c => c ∈ ki
  clsK := fun c hc => by
    have := (exM_all h).1 c hc
    unfold clsB at this
    simp only [Bool.and_eq_true, decide_eq_true_eq] at this
    exact this
  mroK := fun c d hc hd ne => of_decide_eq_true ((exM_all h).2.2 c hc d hd ne)
  insK := fun c hc => by
    have z := ((exM_all h).2.1 c hc).1
    unfold insB at z
    obtain ⟨z1, z⟩ := He.ba z
    obtain ⟨z2, z⟩ := He.ba z
    obtain ⟨z3, z⟩ := He.ba z
    obtain ⟨z4, z⟩ := He.ba z
    obtain ⟨z5, z6⟩ := He.ba z
    exact ⟨He.cls_ok z1, He.eqO_ok z2, of_decide_eq_true z3, of_decide_eq_true z4, fun n hn => of_decide_eq_true (List.all_eq_true.mp z5 n hn)⟩
  objK := fun c hc => by
    have z := ((exM_all h).2.1 c hc).1
    unfold insB at z
    obtain ⟨z1, z⟩ := He.ba z
    obtain ⟨z2, z⟩ := He.ba z
    obtain ⟨z3, z⟩ := He.ba z
    obtain ⟨z4, z⟩ := He.ba z
    obtain ⟨z5, z6⟩ := He.ba z
    exact of_decide_eq_true z6
  kf := fun f => f < fT.length
  fldK := fun c f hc hf' => by
    have := ((exM_all h).2.1 c hc).2 (fT[f]'hf') (List.getElem_mem hf')
    have e : nmAt 1 fT f = fT[f]'hf' := nmAt_lt (List.getElem?_eq_getElem hf')
    rw [e]
    exact He.noat_ok this
end
/-! ### constants of the module -/
mutual
def repB (K : PySem.W.Frag) : T → Value → Bool
  | .non, .none => true
  | .bl b, .bool c => decide (b = c)
  | .int i, .int j _ => decide (i = j)
  | .str x, .str y _ => decide (x = y)
  | .tup xs, .ref a => match K.lookup a with
    | some o => decide (o.cls = .type "tuple") && (match o.data with
      | .seq its _ => decide (its.size ≤ sizeLine) && repsB K xs its.toList
      | _ => false)
    | none => false
  | _, _ => false
def repsB (K : PySem.W.Frag) : List T → List Value → Bool
  | [], [] => true
  | x :: xs, u :: us => repB K x u && repsB K xs us
  | _, _ => false
end
section
variable {N : Nm}
mutual
theorem repB_ok : ∀ {t : T} {u : Value}, repB N.K t u = true → ∃ v, RelV v u ∧ ∀ L ρ H, Rep N L ρ H t v
  | .non, u, h => by
    cases u with
    | none => exact ⟨.non, rfl, fun _ _ _ => rfl⟩
    | _ => cases h
  | .bl b, u, h => by
    cases u with
    | bool c => cases of_decide_eq_true (p := b = c) h; exact ⟨.bl b, rfl, fun _ _ _ => rfl⟩
    | _ => cases h
  | .int i, u, h => by
    cases u with
    | int c t => cases of_decide_eq_true (p := i = c) h; exact ⟨.int i, ⟨t, rfl⟩, fun _ _ _ => rfl⟩
    | _ => cases h
  | .str x, u, h => by
    cases u with
    | str c t => cases of_decide_eq_true (p := x = c) h; exact ⟨.str x, ⟨t, rfl⟩, fun _ _ _ => rfl⟩
    | _ => cases h
  | .byt _, u, h => by cases u <;> cases h
  | .lst _, u, h => by cases u <;> cases h
  | .dic _ _, u, h => by cases u <;> cases h
  | .obj _ _ _, u, h => by cases u <;> cases h
  | .ref _, u, h => by cases u <;> cases h
  | .scr _, u, h => by cases u <;> cases h
  | .tup xs, u, h => by
    cases u with
    | ref a =>
      unfold repB at h
      cases w : N.K.lookup a with
      | none => rw [w] at h; cases h
      | some o =>
        rw [w] at h
        obtain ⟨h1, h2⟩ := He.ba h
        cases wd : o.data with
        | seq its n =>
          rw [wd] at h2
          obtain ⟨h3, h4⟩ := He.ba h2
          obtain ⟨ys, r1, r2⟩ := repsB_ok h4
          exact ⟨.ref a, rfl, fun L ρ H => ⟨a, ys, rfl, .inr ⟨o, its, n, w, of_decide_eq_true h1, wd, of_decide_eq_true h3, r1⟩, r2 L ρ H⟩⟩
        | _ => rw [wd] at h2; cases h2
    | _ => cases h
theorem repsB_ok : ∀ {ts : List T} {us : List Value}, repsB N.K ts us = true → ∃ ys, Vals ys us ∧ ∀ L ρ H, Reps N L ρ H ts ys
  | [], [], _ => ⟨[], .nil, fun _ _ _ => rfl⟩
  | [], _ :: _, h => by cases h
  | _ :: _, [], h => by cases h
  | x :: xs, u :: us, h => by
    unfold repsB at h
    obtain ⟨h1, h2⟩ := He.ba h
    obtain ⟨v, q1, q2⟩ := repB_ok h1
    obtain ⟨ys, p1, p2⟩ := repsB_ok h2
    exact ⟨v :: ys, .cons q1 p1, fun L ρ H => ⟨v, ys, rfl, q2 L ρ H, p2 L ρ H⟩⟩
end
end
def conB (K : PySem.W.Frag) (x : Str) (t : T) : Bool := match PySem.W.nsIn K mainGlobals x with
  | some (some u) => repB K t u
  | _ => false
theorem conB_ok {N : Nm} {h : Heap} {mg : Str → Option Value} (X : N.K.In h) (G : h.Ns mainGlobals mg) {x : Str} {t : T} (c : conB N.K x t = true) : ∃ v u, mg x = some u ∧ RelV v u ∧ ∀ L ρ H, Rep N L ρ H t v := by
  unfold conB at c
  cases e : PySem.W.nsIn N.K mainGlobals x with
  | none => rw [e] at c; cases c
  | some o =>
    rw [e] at c
    cases o with
    | none => cases c
    | some u =>
      obtain ⟨v, q1, q2⟩ := repB_ok c
      exact ⟨v, u, PySem.W.mg_of X G e, q1, q2⟩
/-- a law's program -/
structure Lw (Q : Type) where
  fnB : Q → Fn Q
  dd : Q → He.DefD
  ps : Q → List Str
  nms : Q → List Str
  qs : List Q
  cn : List Str
  ki : List Nat
  fT : List Str
  mT : List Str
  kT : List Str
  free : List Str
  fnT : List (Str × Q)
  inT : List (Nat × Q)
  meT : List ((Nat × Nat) × Q)
  plT : Q → List ((Nat × List Nat) × List (Nat ⊕ T))
  gT : List (Str × T)
  frz : List Nat
  mus : List (Nat × Nat)
section
variable {Q : Type} (b : Lw Q)
def Lw.P : Prog Q where
  fn := b.fnB
  plan := fun f n ks => (b.plT f).lookup (n, ks)
  meth := fun c m => b.meT.lookup (c, m)
  glob := fun g => (b.gT[g]?).map (·.2)
  init := fun c => b.inT.lookup c
  frozen := fun c => b.frz.contains c
def Lw.Γ : Tx Q where
  nms := []
  sc := { kind := .function, names := [], isGenerator := false, isCoroutine := false }
  fnb := none
  gf := fun x => b.fnT.lookup x
  gc := fun x => ixOf x b.cn
  gi := fun c => (b.inT.lookup c).isSome
  gg := fun x => ixOf x (b.gT.map (·.1))
  kf := fun x => ixOf x b.fT
  km := fun x => ixOf x b.mT
  kk := fun x => ixOf x b.kT
  nb := fun x => b.free.contains x
  mu := fun p => b.mus.contains (p.line, p.col)
def Lw.fa : List He.Fa := b.fnT.map (fun p => .glo p.1) ++ (b.cn.map .glo ++ (b.free.map .free ++ (b.inT.map (fun p => .mkr (cnA b.cn p.1)) ++ b.meT.map fun p => .meth (cnA b.cn p.1.1) (nmAt 2 b.mT p.1.2))))
def Lw.fn : List He.DefD := b.qs.map b.dd
/-- what is to be seen of the tables alone -/
def Lw.stat : Bool := nmOk b.fT && (nmOk b.mT && ((b.fT.all fun x => !b.mT.contains x) && ((b.fnT.all fun p => decide ((b.dd p.2).at_ = (p.1, none))) &&
  ((b.inT.all fun p => b.ki.contains p.1 && decide ((b.dd p.2).at_ = (cnA b.cn p.1, some ("__init__" : Str)))) && ((b.meT.all fun p => decide ((b.dd p.2).at_ = (cnA b.cn p.1.1, some (nmAt 2 b.mT p.1.2)))) &&
    (b.ki.all fun c => decide (c < b.cn.length)))))))
structure Lw.Stat : Prop where
  fT : nmOk b.fT = true
  mT : nmOk b.mT = true
  apart : (b.fT.all fun x => !b.mT.contains x) = true
  fnT : ∀ p ∈ b.fnT, (b.dd p.2).at_ = (p.1, none)
  inT : ∀ p ∈ b.inT, p.1 ∈ b.ki ∧ (b.dd p.2).at_ = (cnA b.cn p.1, some ("__init__" : Str))
  meT : ∀ p ∈ b.meT, (b.dd p.2).at_ = (cnA b.cn p.1.1, some (nmAt 2 b.mT p.1.2))
theorem Lw.stat_ok (h : b.stat = true) : b.Stat := by
  unfold Lw.stat at h
  obtain ⟨h1, h⟩ := He.ba h
  obtain ⟨h2, h⟩ := He.ba h
  obtain ⟨h3, h⟩ := He.ba h
  obtain ⟨h4, h⟩ := He.ba h
  obtain ⟨h5, h⟩ := He.ba h
  obtain ⟨h6, h7⟩ := He.ba h
  refine ⟨h1, h2, h3, fun p hp => of_decide_eq_true (List.all_eq_true.mp h4 p hp), fun p hp => ?_, fun p hp => of_decide_eq_true (List.all_eq_true.mp h6 p hp)⟩
  obtain ⟨q1, q2⟩ := He.ba (List.all_eq_true.mp h5 p hp)
  exact ⟨List.contains_iff_mem.mp q1, of_decide_eq_true q2⟩
def Lw.ex (K : PySem.W.Frag) : Bool := exM b.cn b.ki b.fT K && b.gT.all fun p => conB K p.1 p.2
abbrev Lw.Says (K : PySem.W.Frag) : Prop := SaysM b.ex b.fa b.fn K
/-- how the arguments come, by the text alone -/
def Lw.B0 (q : Q) : Prop := ∀ (K : PySem.W.Frag) (fd : FuncData), FunD K (b.dd q).name (b.dd q).qual (b.dd q).params (b.dd q).body (b.dd q).scope ((b.dd q).dvs K) ((b.dd q).kws K) (He.fAd K (b.dd q).at_) fd →
  ∃ g, KBn K fd (b.ps q) (b.ps q).length [] g (fun vs _ => vs)
def Lw.B1 (q : Q) (n : Nat) (ks : List Nat) (pl : List (Nat ⊕ T)) : Prop := ∀ (K : PySem.W.Frag) (fd : FuncData), FunD K (b.dd q).name (b.dd q).qual (b.dd q).params (b.dd q).body (b.dd q).scope ((b.dd q).dvs K) ((b.dd q).kws K) (He.fAd K (b.dd q).at_) fd →
  ∃ g, KBn K fd (b.ps q) n (ks.map (nmAt 3 b.kT)) g (fun vs zs => plV pl (vs ++ zs))
/-- what is to be proved of the text -/
structure Lw.Txt : Prop where
  stat : b.Stat
  qs : ∀ q, q ∈ b.qs
  ar : ∀ q, (b.fnB q).arity = (b.ps q).length
  nl : ∀ q, (b.fnB q).nloc = (b.nms q).length - (b.ps q).length
  sc : ∀ q, FnScope (b.nms q) (b.ps q) (b.dd q).scope
  tr : ∀ q, trSs (trE 40) (fnTx b.Γ (b.nms q) (b.dd q).scope) 100 (b.dd q).body = some (b.fnB q).body
  b0 : ∀ q, b.B0 q
  b1 : ∀ q, ∀ p ∈ b.plT q, b.B1 q p.1.1 p.1.2 p.2
end
theorem ixOf_lt {x : Str} {l : List Str} {i : Nat} (h : ixOf x l = some i) : i < l.length := (List.getElem?_eq_some_iff.mp (ixOf_some h)).1
theorem cnA_of {x : Str} {l : List Str} {i : Nat} (h : ixOf x l = some i) : cnA l i = x := by
  unfold cnA
  rw [List.getD_eq_getElem?_getD, ixOf_some h]
  rfl
section
variable {Q : Type} {b : Lw Q} {K : PySem.W.Frag}
theorem Lw.funD (t : b.Txt) (c : b.Says K) (q : Q) : ∃ fd, FunD K (b.dd q).name (b.dd q).qual (b.dd q).params (b.dd q).body (b.dd q).scope ((b.dd q).dvs K) ((b.dd q).kws K) (He.fAd K (b.dd q).at_) fd := by
  obtain ⟨i, hi⟩ := List.mem_iff_getElem?.mp (t.qs q)
  exact c.def_ (i := i) (by unfold Lw.fn; rw [List.getElem?_map, hi] <;> rfl)
noncomputable def Lw.D (t : b.Txt) (c : b.Says K) : Pd Q where
  P := b.P
  adr := fun q => He.fAd K (b.dd q).at_
  fd := fun q => (Lw.funD t c q).choose
  ps := b.ps
  kwn := nmAt 3 b.kT
  mnm := nmAt 2 b.mT
noncomputable abbrev Lw.N (t : b.Txt) (c : b.Says K) : Nm := nmOf K b.cn b.ki b.fT (He.ba c.all.2.2).1 t.stat.fT
theorem Lw.says (t : b.Txt) (c : b.Says K) {f : He.Fa} (h : f ∈ b.fa) : f.ok K = true := c.all.1 f h
theorem Lw.pdOk (t : b.Txt) (c : b.Says K) : PdOk (Lw.N t c) (Lw.D t c) where
  ar := t.ar
  kp := fun q => (Lw.funD t c q).choose_spec.kp
  b0 := fun q => t.b0 q K _ (Lw.funD t c q).choose_spec
  b1 := fun q n ks pl h => t.b1 q _ (lookup_mem h) K _ (Lw.funD t c q).choose_spec
  init := fun cl f h => by
    have hm := lookup_mem (show b.inT.lookup cl = some f from h)
    obtain ⟨h1, h2⟩ := t.stat.inT _ hm
    refine ⟨h1, ?_⟩
    have z := He.mkr_ok (Lw.says t c (f := .mkr (cnA b.cn cl)) (by
      unfold Lw.fa
      simp only [List.mem_append, List.mem_map]
      exact .inr (.inr (.inr (.inl ⟨_, hm, rfl⟩)))))
    show Mk K (He.ga K (cnA b.cn cl)) (He.fAd K (b.dd f).at_)
    rw [h2]
    exact z
  meth := fun cl m f h => by
    have hm := lookup_mem (show b.meT.lookup (cl, m) = some f from h)
    have h2 := t.stat.meT _ hm
    have z := He.meth_ok (Lw.says t c (f := .meth (cnA b.cn cl) (nmAt 2 b.mT m)) (by
      unfold Lw.fa
      simp only [List.mem_append, List.mem_map]
      exact .inr (.inr (.inr (.inr ⟨_, hm, rfl⟩)))))
    show Meth K (He.ga K (cnA b.cn cl)) (nmAt 2 b.mT m) (He.fAd K (b.dd f).at_)
    rw [h2]
    exact z
  mnf := fun m g e => nm_apart t.stat.fT t.stat.mT t.stat.apart g m e.symm
theorem Lw.glO (t : b.Txt) (c : b.Says K) {h : Heap} {mg : Str → Option Value} (X : K.In h) (G : h.Ns mainGlobals mg) : GlO (Lw.N t c) (Lw.D t c) mg b.Γ where
  gfO := fun x f e => by
    have hm := lookup_mem (show b.fnT.lookup x = some f from e)
    have h2 := t.stat.fnT _ hm
    have z := He.glo_ok X G (x := x) (Lw.says t c (f := .glo x) (by
      unfold Lw.fa
      simp only [List.mem_append, List.mem_map]
      exact .inl ⟨_, hm, rfl⟩))
    show mg x = some (.ref (He.fAd K (b.dd f).at_))
    rw [h2]
    exact z
  gcO := fun x cl e => by
    have e : ixOf x b.cn = some cl := e
    refine ⟨?_, ixOf_lt e⟩
    have z := He.glo_ok X G (x := x) (Lw.says t c (f := .glo x) (by
      unfold Lw.fa
      simp only [List.mem_append, List.mem_map]
      exact .inr (.inl ⟨x, List.mem_of_getElem? (ixOf_some e), rfl⟩)))
    show mg x = some (.ref (He.ga K (cnA b.cn cl)))
    rw [cnA_of e]
    exact z
  giO := fun cl e => Option.isSome_iff_exists.mp (show (b.inT.lookup cl).isSome = true from e)
  ggO := fun x g e => by
    have e : ixOf x (b.gT.map (·.1)) = some g := e
    have e2 := ixOf_some e
    rw [List.getElem?_map] at e2
    cases w : b.gT[g]? with
    | none => rw [w] at e2; cases e2
    | some p =>
      rw [w] at e2
      cases e2
      obtain ⟨v, u, z1, z2, z3⟩ := conB_ok (N := Lw.N t c) X G (x := p.1) (t := p.2) (List.all_eq_true.mp (He.ba c.all.2.2).2 p (List.mem_of_getElem? w))
      refine ⟨p.2, v, u, ?_, z1, z2, z3⟩
      show (b.gT[g]?).map (·.2) = _
      rw [w]
      rfl
  nbO := fun x e => He.free_ok X G (Lw.says t c (f := .free x) (by
    unfold Lw.fa
    simp only [List.mem_append, List.mem_map]
    exact .inr (.inr (.inl ⟨x, List.contains_iff_mem.mp (show b.free.contains x = true from e), rfl⟩))))
  kfO := fun x i e => by
    have e : ixOf x b.fT = some i := e
    exact ⟨nmAt_lt (ixOf_some e), ixOf_lt e⟩
  kmO := fun x i e => nmAt_lt (ixOf_some (show ixOf x b.mT = some i from e))
  kkO := fun x i e => nmAt_lt (ixOf_some (show ixOf x b.kT = some i from e))
  ok := Lw.pdOk t c
theorem Lw.dfOk (t : b.Txt) (c : b.Says K) (q : Q) : ∃ x qual params body scope dvs kws nms, DfOk (Lw.N t c) (Lw.D t c) b.Γ q x qual params body scope dvs kws nms :=
  ⟨_, _, _, _, _, _, _, b.nms q, (Lw.funD t c q).choose_spec, t.sc q, t.nl q, t.tr q⟩
/-- THE END: the law's own def, at depth k -/
theorem Lw.law {P : Program} {w : World} (t : b.Txt) (c : b.Says K) {h : Heap} {mg : Str → Option Value} (X : K.In h) (G : h.Ns mainGlobals mg) (k : Nat) (q : Q) : ∀ base : Heap, K.In base → base.Ns mainGlobals mg →
    FnG P w K mg base k (He.fAd K (b.dd q).at_) ((Lw.funD t c q).choose) (b.ps q) (spF (Lw.N t c) b.P k q) :=
  fun base _ _ => all_fn (N := Lw.N t c) (D := Lw.D t c) (Lw.glO t c X G) (Lw.dfOk t c) k q
end
end Mt

set_option maxHeartbeats 8000000
/-! Mt28: how arguments come, by places. -/
namespace Mt
open PySem PySem.Spec PyProof.Rows L2

def plW (pl : List (Nat ⊕ Nat)) (us ds : List Value) : List Value := pl.map fun
  | .inl i => us.getD i .none
  | .inr j => ds.getD j .none
/-- the two plans agree, the defaults being these -/
def plAg : List (Nat ⊕ Nat) → List (Nat ⊕ T) → List V → Bool
  | [], [], _ => true
  | .inl i :: p, .inl j :: q, ds => decide (i = j) && plAg p q ds
  | .inr i :: p, .inr t :: q, ds => decide (ds[i]? = some (tv t)) && plAg p q ds
  | _, _, _ => false
theorem vals_getD : ∀ {vs : List V} {us : List Value} (i : Nat), Vals vs us → RelV (vs.getD i .non) (us.getD i .none)
  | _, _, i, .nil => by rw [List.getD_nil, List.getD_nil]; rfl
  | _, _, 0, .cons r _ => r
  | _, _, i + 1, .cons _ r => by
    rw [List.getD_cons_succ, List.getD_cons_succ]
    exact vals_getD i r
theorem vals_at : ∀ {ds : List V} {its : List Value} {i : Nat} {v : V}, Vals ds its → ds[i]? = some v → RelV v (its.getD i .none)
  | _, _, _, _, .nil, h => by cases h
  | _, _, 0, _, .cons r _, h => by cases h; exact r
  | _, _, i + 1, _, .cons _ r, h => by
    rw [List.getD_cons_succ]
    exact vals_at r h
theorem plW_rel {vs : List V} {us : List Value} {ds : List V} {its : List Value} (r : Vals vs us) (d : Vals ds its) : ∀ {pl' : List (Nat ⊕ Nat)} {pl : List (Nat ⊕ T)}, plAg pl' pl ds = true → Vals (plV pl vs) (plW pl' us its)
  | [], [], _ => .nil
  | [], _ :: _, h => by cases h
  | .inl i :: p, [], h => by cases h
  | .inr i :: p, [], h => by cases h
  | .inl i :: p, .inr j :: q, h => by cases h
  | .inr i :: p, .inl j :: q, h => by cases h
  | .inl i :: p, .inl j :: q, h => by
    obtain ⟨h1, h2⟩ := He.ba h
    cases of_decide_eq_true h1
    exact .cons (vals_getD i r) (plW_rel r d h2)
  | .inr i :: p, .inr t :: q, h => by
    obtain ⟨h1, h2⟩ := He.ba h
    exact .cons (vals_at d (of_decide_eq_true h1)) (plW_rel r d h2)
section
variable {K : PySem.W.Frag} {x qual : Str} {params : Arguments} {body : List Stmt} {scope : Scope} {dvs : List V} {kws : List (Str × V)} {f : Addr} {fd : FuncData} {ps ks : List Str} {n : Nat} {pl : List (Nat ⊕ T)}
/-- no defaults: every parameter is written -/
theorem kb_all (F : FunD K x qual params body scope [] kws f fd)
    (h : ∀ (kV doc pm : Value) (an : Option Addr) (cdv ct : Value) (us : List Value), us.length = ps.length → bindArgs (PySem.W.fnOf x qual params body scope .none kV doc pm an cdv ct) ⟨us, []⟩ = pure (ps.zip us)) : ∃ g, KBn K fd ps ps.length [] g (fun vs _ => vs) := by
  obtain ⟨oc, od, dV, kV, doc, pm, an, cdv, ct, osl, rfl, lk, hcd, hD, hK⟩ := F.ex
  rcases hD with ⟨_, rfl⟩ | ⟨e, _⟩
  · exact ⟨fun us _ => us, fun s us ws X l1 l2 => .of_eq (h kV doc pm an cdv ct us l1), fun r _ => r⟩
  · exact absurd rfl e
/-- defaults there are, but every parameter is written -/
theorem kb_allD (F : FunD K x qual params body scope dvs kws f fd) (hd : dvs ≠ [])
    (h : ∀ (D : Addr) (kV doc pm : Value) (an : Option Addr) (cdv ct : Value) (us its : List Value), us.length = ps.length → its.length = dvs.length → ∃ k, bindArgs (PySem.W.fnOf x qual params body scope (.ref D) kV doc pm an cdv ct) ⟨us, []⟩ = seqItems? (.ref D) >>= k ∧ k (some its.toArray) = pure (ps.zip us)) : ∃ g, KBn K fd ps ps.length [] g (fun vs _ => vs) := by
  obtain ⟨its, z⟩ := FunD.kbindsD (ps := ps) F ps.length [] (fun us _ _ => us) hd (fun r _ _ => r) fun D kV doc pm an cdv ct us its ws l1 l2 l3 => h D kV doc pm an cdv ct us its l1 l2
  exact ⟨_, z⟩
/-- no defaults: by places -/
theorem kb_plan (F : FunD K x qual params body scope [] kws f fd) (pl' : List (Nat ⊕ Nat)) (ag : plAg pl' pl [] = true)
    (h : ∀ (kV doc pm : Value) (an : Option Addr) (cdv ct : Value) (us ws : List Value), us.length = n → ws.length = ks.length → bindArgs (PySem.W.fnOf x qual params body scope .none kV doc pm an cdv ct) ⟨us, ks.zip ws⟩ = pure (ps.zip (plW pl' (us ++ ws) []))) : ∃ g, KBn K fd ps n ks g (fun vs zs => plV pl (vs ++ zs)) := by
  obtain ⟨oc, od, dV, kV, doc, pm, an, cdv, ct, osl, rfl, lk, hcd, hD, hK⟩ := F.ex
  rcases hD with ⟨_, rfl⟩ | ⟨e, _⟩
  · exact ⟨fun us ws => plW pl' (us ++ ws) [], fun s us ws X l1 l2 => .of_eq (h kV doc pm an cdv ct us ws l1 l2), fun r1 r2 => plW_rel (r1.append r2) .nil ag⟩
  · exact absurd rfl e
theorem kb_planD (F : FunD K x qual params body scope dvs kws f fd) (hd : dvs ≠ []) (pl' : List (Nat ⊕ Nat)) (ag : plAg pl' pl dvs = true)
    (h : ∀ (D : Addr) (kV doc pm : Value) (an : Option Addr) (cdv ct : Value) (us its ws : List Value), us.length = n → its.length = dvs.length → ws.length = ks.length → ∃ k, bindArgs (PySem.W.fnOf x qual params body scope (.ref D) kV doc pm an cdv ct) ⟨us, ks.zip ws⟩ = seqItems? (.ref D) >>= k ∧ k (some its.toArray) = pure (ps.zip (plW pl' (us ++ ws) its))) : ∃ g, KBn K fd ps n ks g (fun vs zs => plV pl (vs ++ zs)) := by
  obtain ⟨oc, od, dV, kV, doc, pm, an, cdv, ct, osl, rfl, lk, hcd, hD, hK⟩ := F.ex
  rcases hD with ⟨e, _⟩ | ⟨_, D, o, its, m, rfl, lD, oD, rD⟩
  · exact absurd e hd
  · refine ⟨fun us ws => plW pl' (us ++ ws) its, fun s us ws X l1 l2 => ?_, fun r1 r2 => plW_rel (r1.append r2) rD ag⟩
    obtain ⟨k, e1, e2⟩ := h D kV doc pm an cdv ct us its ws l1 rD.length.symm l2
    refine BindsTo.of_looks fun M => ?_
    rw [e1]
    exact looks_items X lD oD (.of_pure e2)
end
end Mt

set_option maxHeartbeats 8000000
/-! Mt29: the meaning by closures. -/
namespace Mt
open PySem
abbrev CE := Env → M T
abbrev CI := Env → M (List T × M Unit)
abbrev CG := T → Env → M Env
abbrev CS := Env → M (Fl × Env)
section
variable {F : Type} (P : Prog F) (G : F → List T → M T) (mk : Nat → Nat → List Nat → List T → M T)
def cVar (i : Nat) : CE := fun σ => ofO (σ[i]?.bind id)
def cCon (t : T) : CE := fun _ => ret t
def cGlob (g : Nat) : CE := fun _ => ofO (P.glob g)
def cBin (op : Op) (m : Bool) (a b : CE) : CE := fun σ => bnd (a σ) fun x => bnd (b σ) fun y => opT m op x y
def cNeg (a : CE) : CE := fun σ => bnd (a σ) negT
def cNot (a : CE) : CE := fun σ => bnd (a σ) fun x => bnd (truT x) fun b => ret (.bl (!b))
def cAnd (a b : CE) : CE := fun σ => bnd (a σ) fun x => bnd (truT x) fun t => if t then b σ else ret x
def cOr (a b : CE) : CE := fun σ => bnd (a σ) fun x => bnd (truT x) fun t => if t then ret x else b σ
def cIte (c a b : CE) : CE := fun σ => bnd (bnd (c σ) truT) fun t => if t then a σ else b σ
def cCmp (op : Cm) (a b : CE) : CE := fun σ => bnd (a σ) fun x => bnd (b σ) fun y => bnd (ofO (cmpT op x y)) fun b => ret (.bl b)
def cCmp2 (op op' : Cm) (a b c : CE) : CE := fun σ => bnd (a σ) fun x => bnd (b σ) fun y => bnd (ofO (cmpT op x y)) fun t =>
      if t then bnd (c σ) fun z => bnd (ofO (cmpT op' y z)) fun u => ret (.bl u) else ret (.bl false)
def cCmp3 (op op' op'' : Cm) (a b c d : CE) : CE := fun σ => bnd (a σ) fun x => bnd (b σ) fun y => bnd (ofO (cmpT op x y)) fun t =>
      if t then bnd (c σ) fun z => bnd (ofO (cmpT op' y z)) fun u => if u then bnd (d σ) fun w => bnd (ofO (cmpT op'' z w)) fun r => ret (.bl r) else ret (.bl false) else ret (.bl false)
def cEs : List CE → Env → M (List T)
  | [], _ => ret []
  | e :: es, σ => bnd (e σ) fun x => bnd (cEs es σ) fun xs => ret (x :: xs)
def cEqo (m : Nat) (a b : CE) : CE := fun σ => bnd (a σ) fun x => bnd (b σ) fun y => eqoT P G m x y
def cTup (es : List CE) : CE := fun σ => bnd (cEs es σ) fun xs => if xs.length ≤ sizeLine then ret (.tup xs) else no
def cLst (m : Bool) (es : List CE) : CE := fun σ => bnd (cEs es σ) fun xs => if xs.length ≤ sizeLine then mkL m xs else no
def cIdx (a i : CE) : CE := fun σ => bnd (a σ) fun x => bnd (i σ) fun y => idxT x y
def cO : Option CE → Env → M (Option Int)
  | none, _ => ret none
  | some e, σ => bnd (e σ) fun
    | .int i => ret (some i)
    | _ => no
def cSlc (m : Bool) (a : CE) (lo hi : Option CE) : CE := fun σ => bnd (a σ) fun x => bnd (cO lo σ) fun l => bnd (cO hi σ) fun h => slcT m l h x
def cFld (a : CE) (f : Nat) : CE := fun σ => bnd (a σ) (fldT f)
def cCall (f : F) (es : List CE) (ks : List Nat) (kes : List CE) : CE := fun σ => bnd (cEs es σ) fun vs => bnd (cEs kes σ) fun ws => bnd (bindA P f es.length ks (vs ++ ws)) (G f)
def cMake (c : Nat) (es : List CE) (ks : List Nat) (kes : List CE) : CE := fun σ => bnd (cEs es σ) fun vs => bnd (cEs kes σ) fun ws => mk c (es.length + 1) ks (vs ++ ws)
def cMeth (o : CE) (m : Nat) (es : List CE) (ks : List Nat) (kes : List CE) : CE := fun σ => bnd (o σ) fun x => bnd (clsT x) fun c => bnd (ofO (P.meth c m)) fun f => bnd (cEs es σ) fun vs => bnd (cEs kes σ) fun ws =>
      bnd (bindA P f (es.length + 1) ks (x :: (vs ++ ws))) (G f)
def cPrim (p : Prim) (m : Bool) (es : List CE) : CE := fun σ => bnd (cEs es σ) (primT p m)
def cIsi (a : CE) (t : Ty) : CE := fun σ => bnd (a σ) (isiM t)
def cBm (p : Bm) (o : CE) (es : List CE) : CE := fun σ => bnd (o σ) fun x => bnd (bmC p x) fun _ => bnd (cEs es σ) fun vs => bmT p x vs
def cIfs : List CE → Env → M Bool
  | [], _ => ret true
  | [c], σ => bnd (c σ) truT
  | _, _ => no
def cLc (m : Bool) (tg : CG) (it : CI) (ifs : List CE) (elt : CE) (own : List Nat) : CE := fun σ => bnd (it σ) fun r => nox (bnd (compL r.2 (fun x => bnd (tg x (wipe σ own)) fun σ' => bnd (cIfs ifs σ') fun t =>
      if t then bnd (elt σ') fun y => ret (some y) else ret none) r.1) fun ys => if ys.length ≤ sizeLine then mkL m ys else no)
def cLc2 (m : Bool) (tg : CG) (it : CI) (ifs : List CE) (tg' : CG) (it' : CI) (ifs' : List CE) (elt : CE) (own own' : List Nat) : CE := fun σ => bnd (it σ) fun r => nox (bnd (compL2 r.2 (fun x => bnd (tg x (wipe σ own)) fun σ' => bnd (cIfs ifs σ') fun t =>
      if t then bnd (it' σ') fun r' => compL r'.2 (fun x' => bnd (tg' x' (wipe σ' own')) fun σ'' => bnd (cIfs ifs' σ'') fun t' =>
        if t' then bnd (elt σ'') fun y => ret (some y) else ret none) r'.1 else ret []) r.1) fun ys => if ys.length ≤ sizeLine then mkL m ys else no)
def cRng (a b : CE) : CI := fun σ => bnd (a σ) fun x => bnd (b σ) fun y => match x, y with
    | .int i, .int j => if -(2 ^ 62) ≤ i ∧ i < 2 ^ 62 ∧ -(2 ^ 62) ≤ j ∧ j < 2 ^ 62 then ret ((List.range (j - i).toNat).map fun (k : Nat) => .int (i + k), ret ()) else no
    | _, _ => no
def cEnum (k : Int) (a : CE) : CI := fun σ => bnd (a σ) fun x => bnd (itemsT x) fun xs => ret (xs.zipIdx.map fun p => .tup [.int (k + (p.2 : Nat)), p.1], stillT xs x)
def cZip (a b : CE) : CI := fun σ => bnd (a σ) fun x => bnd (b σ) fun y => bnd (itemsT x) fun xs => bnd (itemsT y) fun ys =>
      ret ((xs.zip ys).map fun p => .tup [p.1, p.2], bnd (stillT xs x) fun _ => stillT ys y)
def cSeq (a : CE) : CI := fun σ => bnd (a σ) fun x => bnd (itemsT x) fun xs => ret (xs, stillT xs x)
def gName (i : Nat) : CG := fun v σ => if i < σ.length then ret (σ.set i (some v)) else no
def cGs : List CG → List T → Env → M Env
  | [], [], σ => ret σ
  | t :: ts, x :: xs, σ => bnd (t x σ) fun σ' => cGs ts xs σ'
  | _, _, _ => no
def gTupC (ts : List CG) : CG := fun v σ => match v with
    | .tup xs => if ts.length = xs.length then cGs ts xs σ else no
    | v => bnd (listT v) fun xs => if ts.length = xs.length then cGs ts xs σ else no
def gSubC (o i : CE) : CG := fun v σ => bnd (o σ) fun x => bnd (i σ) fun y => match x, y with
    | .ref n, .int k => bnd (getO n) fun
      | .lst xs => bnd (ofO (L2.ixN xs.length k)) fun j => bnd (setO n (.lst (xs.set j v))) fun _ => ret σ
      | _ => no
    | _, _ => no
def gFldC (o : CE) (f : Nat) : CG := fun v σ => bnd (o σ) fun
    | .ref n => bnd (getO n) fun
      | .ins c fs vs => if fs.length < 900 then bnd (setO n (.ins c (putV f v fs vs).1 (putV f v fs vs).2)) fun _ => ret σ else no
      | _ => no
    | _ => no
def sSs : List CS → CS
  | [], σ => ret (.nx, σ)
  | s :: r, σ => bnd (s σ) fun q => match q.1 with
    | .nx => sSs r q.2
    | .rt v => ret (.rt v, q.2)
def sExpr (e : CE) : CS := fun σ => bnd (e σ) fun _ => ret (.nx, σ)
def sAsg (tg : CG) (e : CE) : CS := fun σ => bnd (e σ) fun v => bnd (tg v σ) fun σ' => ret (.nx, σ')
def sAug (i : Nat) (op : Op) (e : CE) : CS := fun σ => bnd (ofO (σ[i]?.bind id)) fun x => bnd (e σ) fun y => bnd (match op, x, y with
      | .add, .int a, .int b => ret (.int (a + b))
      | .sub, .int a, .int b => ret (.int (a - b))
      | _, _, _ => (no : M T)) fun v => ret (.nx, σ.set i (some v))
def sRet (e : CE) : CS := fun σ => bnd (e σ) fun v => ret (.rt v, σ)
def sIff (c : CE) (a b : List CS) : CS := fun σ => bnd (bnd (c σ) truT) fun t => if t then sSs a σ else sSs b σ
def sWhl (c : CE) (b : List CS) : CS := fun σ => whlL (fun σ => bnd (c σ) truT) (sSs b) turns σ
def sFor (tg : CG) (it : CI) (b : List CS) : CS := fun σ => bnd (it σ) fun r => forL r.2 (fun x σ => bnd (tg x σ) (sSs b)) r.1 σ
def sRai : CS := fun _ => no
def sPass : CS := fun σ => ret (.nx, σ)
/-- a def's run -/
def runS (ar nl : Nat) (b : List CS) (as : List T) : M T := if as.length = ar then bnd (sSs b (as.map some ++ List.replicate nl none)) fun r => match r.1 with
    | .nx => ret .non
    | .rt v => ret v
  else no
def modS (md : Mode) (as : List T) (run : M T) : M T := match md with
    | .pure => if (frzWs (r0 0) as).isSome then lift (fin 0 (run [])) else no
    | .shared => fun h => fin h.length (run h)
    | .keep => run
end
end Mt

set_option maxHeartbeats 8000000
/-! Mt30: calls by closures. -/
namespace Mt
open PySem
structure Sh (F : Type) where
  P : Prog F
  bs : (F → List T → M T) → (Nat → Nat → List Nat → List T → M T) → F → List CS
  ok : ∀ G mk f, exSs P G mk (P.fn f).body = sSs (bs G mk f)
section
variable {F : Type} (S : Sh F)
mutual
def callS : Nat → F → List T → M T
  | 0, _, _ => no
  | 1, _, _ => no
  | n + 2, f, as => modS (S.P.fn f).mode as (runS (S.P.fn f).arity (S.P.fn f).nloc (S.bs (callS (n + 1)) (makeS (n + 1)) f) as)
def makeS : Nat → Nat → Nat → List Nat → List T → M T
  | 0, _, _, _, _ => no
  | n + 1, c, k, ks, as => match S.P.init c with
    | none => no
    | some f => if S.P.frozen c then (if (frzWs (r0 0) as).isSome then lift (made c (bnd (bindA S.P f k ks (.ref 0 :: as)) (callS n f) [O.ins c [] []])) else no)
      else bnd (newO (.ins c [] [])) fun x => bnd (bnd (bindA S.P f k ks (x :: as)) (callS n f)) fun r => match r with
        | .non => ret x
        | _ => no
end
theorem callS_eq : ∀ n : Nat, callS S n = callN S.P n ∧ makeS S n = makeN S.P n ∧ callS S (n + 1) = callN S.P (n + 1) ∧ makeS S (n + 1) = makeN S.P (n + 1)
  | 0 => by
    have c0 : callS S 0 = callN S.P 0 := funext fun f => funext fun as => rfl
    have c1 : callS S 1 = callN S.P 1 := funext fun f => funext fun as => rfl
    refine ⟨c0, funext fun c => funext fun k => funext fun ks => funext fun as => rfl, c1, funext fun c => funext fun k => funext fun ks => funext fun as => ?_⟩
    unfold makeS makeN
    rw [c0]
    try rfl
  | n + 1 => by
    obtain ⟨_, _, h1, h2⟩ := callS_eq n
    refine ⟨h1, h2, funext fun f => funext fun as => ?_, funext fun c => funext fun k => funext fun ks => funext fun as => ?_⟩
    · have e : runB S.P (callN S.P (n + 1)) (makeN S.P (n + 1)) (S.P.fn f) as = runS (S.P.fn f).arity (S.P.fn f).nloc (S.bs (callS S (n + 1)) (makeS S (n + 1)) f) as := by
        rw [h1, h2]
        unfold runB runS
        rw [S.ok]
        try rfl
      show modS (S.P.fn f).mode as (runS (S.P.fn f).arity (S.P.fn f).nloc (S.bs (callS S (n + 1)) (makeS S (n + 1)) f) as) = callN S.P (n + 2) f as
      rw [← e]
      unfold callN modS
      cases (S.P.fn f).mode <;> rfl
    · unfold makeS makeN
      rw [h1]
      try rfl
end
end Mt

set_option maxHeartbeats 8000000
/-! Mt31: closures, node by node. -/
namespace Mt
open PySem
section
variable {F : Type} (P : Prog F) (G : F → List T → M T) (mk : Nat → Nat → List Nat → List T → M T)
theorem d_es : ∀ es : List (C F), evs P G mk es = cEs (es.map (ev P G mk))
  | [] => rfl
  | e :: es => funext fun σ => by
    show bnd (ev P G mk e σ) (fun x => bnd (evs P G mk es σ) fun xs => ret (x :: xs)) = _
    rw [d_es es]
    rfl
theorem d_O : ∀ o : Option (C F), evO P G mk o = cO (o.map (ev P G mk))
  | none => rfl
  | some e => funext fun σ => rfl
theorem d_if : ∀ es : List (C F), evIf P G mk es = cIfs (es.map (ev P G mk))
  | [] => rfl
  | [c] => rfl
  | _ :: _ :: _ => rfl
theorem d_gs : ∀ ts : List (C F), asgs P G mk ts = cGs (ts.map (asg P G mk))
  | [] => funext fun xs => funext fun σ => by cases xs <;> rfl
  | t :: ts => funext fun xs => funext fun σ => by
    cases xs with
    | nil => rfl
    | cons x xs =>
      show bnd (asg P G mk t x σ) (fun σ' => asgs P G mk ts xs σ') = _
      rw [d_gs ts]
      rfl
theorem d_ss : ∀ b : List (S F), exSs P G mk b = sSs (b.map (exS P G mk))
  | [] => rfl
  | s :: r => funext fun σ => by
    show bnd (exS P G mk s σ) (fun q => match q.1 with
      | .nx => exSs P G mk r q.2
      | .rt v => ret (.rt v, q.2)) = _
    rw [d_ss r]
    rfl
theorem d_var (i : Nat) : ev P G mk (.var i) = cVar i := rfl
theorem d_con (t : T) : ev P G mk (.con t) = cCon t := rfl
theorem d_glob (g : Nat) : ev P G mk (.glob g) = cGlob P g := rfl
theorem d_bin (op : Op) (m : Bool) (a b : C F) : ev P G mk (.bin op m a b) = cBin op m (ev P G mk a) (ev P G mk b) := rfl
theorem d_neg (a : C F) : ev P G mk (.neg a) = cNeg (ev P G mk a) := rfl
theorem d_not (a : C F) : ev P G mk (.not a) = cNot (ev P G mk a) := rfl
theorem d_and (a b : C F) : ev P G mk (.and a b) = cAnd (ev P G mk a) (ev P G mk b) := rfl
theorem d_or (a b : C F) : ev P G mk (.or a b) = cOr (ev P G mk a) (ev P G mk b) := rfl
theorem d_ite (c a b : C F) : ev P G mk (.ite c a b) = cIte (ev P G mk c) (ev P G mk a) (ev P G mk b) := rfl
theorem d_cmp (op : Cm) (a b : C F) : ev P G mk (.cmp op a b) = cCmp op (ev P G mk a) (ev P G mk b) := rfl
theorem d_cmp2 (x y : Cm) (a b c : C F) : ev P G mk (.cmp2 x y a b c) = cCmp2 x y (ev P G mk a) (ev P G mk b) (ev P G mk c) := rfl
theorem d_cmp3 (x y z : Cm) (a b c d : C F) : ev P G mk (.cmp3 x y z a b c d) = cCmp3 x y z (ev P G mk a) (ev P G mk b) (ev P G mk c) (ev P G mk d) := rfl
theorem d_eqo (m : Nat) (a b : C F) : ev P G mk (.eqo m a b) = cEqo P G m (ev P G mk a) (ev P G mk b) := rfl
theorem d_tup (es : List (C F)) : ev P G mk (.tup es) = cTup (es.map (ev P G mk)) := by
  unfold cTup; rw [← d_es]; rfl
theorem d_lst (m : Bool) (es : List (C F)) : ev P G mk (.lst m es) = cLst m (es.map (ev P G mk)) := by
  unfold cLst; rw [← d_es]; rfl
theorem d_idx (a i : C F) : ev P G mk (.idx a i) = cIdx (ev P G mk a) (ev P G mk i) := rfl
theorem d_slc (m : Bool) (a : C F) (lo hi : Option (C F)) : ev P G mk (.slc m a lo hi) = cSlc m (ev P G mk a) (lo.map (ev P G mk)) (hi.map (ev P G mk)) := by
  unfold cSlc; rw [← d_O, ← d_O]; rfl
theorem d_fld (a : C F) (f : Nat) : ev P G mk (.fld a f) = cFld (ev P G mk a) f := rfl
theorem d_call (f : F) (es : List (C F)) (ks : List Nat) (kes : List (C F)) : ev P G mk (.call f es ks kes) = cCall P G f (es.map (ev P G mk)) ks (kes.map (ev P G mk)) := by
  unfold cCall; rw [← d_es, ← d_es, List.length_map]; rfl
theorem d_make (c : Nat) (es : List (C F)) (ks : List Nat) (kes : List (C F)) : ev P G mk (.make c es ks kes) = cMake mk c (es.map (ev P G mk)) ks (kes.map (ev P G mk)) := by
  unfold cMake; rw [← d_es, ← d_es, List.length_map]; rfl
theorem d_meth (o : C F) (m : Nat) (es : List (C F)) (ks : List Nat) (kes : List (C F)) : ev P G mk (.meth o m es ks kes) = cMeth P G (ev P G mk o) m (es.map (ev P G mk)) ks (kes.map (ev P G mk)) := by
  unfold cMeth; rw [← d_es, ← d_es, List.length_map]; rfl
theorem d_prim (p : Prim) (m : Bool) (es : List (C F)) : ev P G mk (.prim p m es) = cPrim p m (es.map (ev P G mk)) := by
  unfold cPrim; rw [← d_es]; rfl
theorem d_isi (a : C F) (t : Ty) : ev P G mk (.isi a t) = cIsi (ev P G mk a) t := rfl
theorem d_bm (p : Bm) (o : C F) (es : List (C F)) : ev P G mk (.bm p o es) = cBm p (ev P G mk o) (es.map (ev P G mk)) := by
  unfold cBm; rw [← d_es]; rfl
theorem d_lc (m : Bool) (tg it : C F) (ifs : List (C F)) (elt : C F) (own : List Nat) : ev P G mk (.lc m tg it ifs elt own) = cLc m (asg P G mk tg) (iter P G mk it) (ifs.map (ev P G mk)) (ev P G mk elt) own := by
  unfold cLc; rw [← d_if]; rfl
theorem d_lc2 (m : Bool) (tg it : C F) (ifs : List (C F)) (tg' it' : C F) (ifs' : List (C F)) (elt : C F) (own own' : List Nat) :
    ev P G mk (.lc2 m tg it ifs tg' it' ifs' elt own own') = cLc2 m (asg P G mk tg) (iter P G mk it) (ifs.map (ev P G mk)) (asg P G mk tg') (iter P G mk it') (ifs'.map (ev P G mk)) (ev P G mk elt) own own' := by
  unfold cLc2; rw [← d_if, ← d_if]; rfl
theorem d_rng (a b : C F) : iter P G mk (.iRng a b) = cRng (ev P G mk a) (ev P G mk b) := rfl
theorem d_enum (k : Int) (a : C F) : iter P G mk (.iEnum k a) = cEnum k (ev P G mk a) := rfl
theorem d_zip (a b : C F) : iter P G mk (.iZip a b) = cZip (ev P G mk a) (ev P G mk b) := rfl
theorem d_seq (a : C F) : iter P G mk (.iSeq a) = cSeq (ev P G mk a) := rfl
theorem d_name (i : Nat) : asg P G mk (.tName i : C F) = gName i := rfl
theorem d_ttup (ts : List (C F)) : asg P G mk (.tTup ts) = gTupC (ts.map (asg P G mk)) := funext fun v => funext fun σ => by
  unfold gTupC
  rw [← d_gs, List.length_map]
  cases v <;> rfl
theorem d_sub (o i : C F) : asg P G mk (.tSub o i) = gSubC (ev P G mk o) (ev P G mk i) := rfl
theorem d_tfld (o : C F) (f : Nat) : asg P G mk (.tFld o f) = gFldC (ev P G mk o) f := rfl
theorem d_expr (e : C F) : exS P G mk (.expr e) = sExpr (ev P G mk e) := rfl
theorem d_asg (t e : C F) : exS P G mk (.asg t e) = sAsg (asg P G mk t) (ev P G mk e) := rfl
theorem d_aug (i : Nat) (op : Op) (e : C F) : exS P G mk (.aug i op e) = sAug i op (ev P G mk e) := rfl
theorem d_ret (e : C F) : exS P G mk (.ret e) = sRet (ev P G mk e) := rfl
theorem d_iff (c : C F) (a b : List (S F)) : exS P G mk (.iff c a b) = sIff (ev P G mk c) (a.map (exS P G mk)) (b.map (exS P G mk)) := by
  unfold sIff; rw [← d_ss, ← d_ss]; rfl
theorem d_whl (c : C F) (b : List (S F)) : exS P G mk (.whl c b) = sWhl (ev P G mk c) (b.map (exS P G mk)) := by
  unfold sWhl; rw [← d_ss]; rfl
theorem d_for (t i : C F) (b : List (S F)) : exS P G mk (.for_ t i b) = sFor (asg P G mk t) (iter P G mk i) (b.map (exS P G mk)) := by
  unfold sFor; rw [← d_ss]; rfl
theorem d_rai : exS P G mk (.rai : S F) = sRai := rfl
theorem d_pass : exS P G mk (.pass : S F) = sPass := rfl
end
end Mt

set_option maxHeartbeats 8000000
/-! Mt32: runs, rule by rule. -/
namespace Mt
open PySem
/-- a run that ends so -/
def V {α : Type} (m : M α) (h : Sto) (Q : α → Sto → Prop) : Prop := ∃ a h', m h = .ok a h' ∧ Q a h'
section
variable {α β : Type} {h : Sto} {Q : α → Sto → Prop}
theorem V.mono {m : M α} {Q' : α → Sto → Prop} (w : V m h Q) (t : ∀ a h', Q a h' → Q' a h') : V m h Q' := by
  obtain ⟨a, h', e, q⟩ := w
  exact ⟨a, h', e, t a h' q⟩
theorem V.of {m : M α} {a : α} {h' : Sto} (e : m h = .ok a h') (q : Q a h') : V m h Q := ⟨a, h', e, q⟩
theorem v_ret (a : α) : V (ret a) h Q ↔ Q a h := ⟨fun w => (by obtain ⟨_, _, e, q⟩ := w; cases e; exact q), fun q => ⟨_, _, rfl, q⟩⟩
theorem v_no : V (no : M α) h Q ↔ False := ⟨fun w => (by obtain ⟨_, _, e, q⟩ := w; cases e), fun q => q.elim⟩
theorem v_bnd (m : M β) (f : β → M α) : V (bnd m f) h Q ↔ V m h fun b h' => V (f b) h' Q := by
  unfold V bnd
  constructor
  · intro ⟨a, h', e, q⟩
    cases e1 : m h with
    | ok b h1 => rw [e1] at e; exact ⟨b, h1, rfl, a, h', e, q⟩
    | ex x h1 => rw [e1] at e; cases e
    | no => rw [e1] at e; cases e
  · intro ⟨b, h1, e1, a, h', e, q⟩
    exact ⟨a, h', by rw [e1]; exact e, q⟩
theorem v_newO {Q : T → Sto → Prop} (o : O) : V (newO o) h Q ↔ Q (.ref h.length) (h ++ [o]) := ⟨fun w => (by obtain ⟨_, _, e, q⟩ := w; cases e; exact q), fun q => ⟨_, _, rfl, q⟩⟩
theorem v_getO {Q : O → Sto → Prop} {n : Nat} {o : O} (w : h[n]? = some o) : V (getO n) h Q ↔ Q o h := by
  constructor
  · intro v
    obtain ⟨a, h', e, q⟩ := v
    unfold getO at e
    rw [w] at e
    cases e; exact q
  · intro q
    exact ⟨o, h, by unfold getO; rw [w], q⟩
theorem v_getO_set {Q : O → Sto → Prop} {n : Nat} {o : O} (w : n < h.length) : V (getO n) (h.set n o) Q ↔ Q o (h.set n o) :=
  v_getO (by rw [List.getElem?_set_self w])
theorem v_setO {Q : Unit → Sto → Prop} {n : Nat} (o : O) (w : n < h.length) : V (setO n o) h Q ↔ Q () (h.set n o) := by
  constructor
  · intro v
    obtain ⟨a, h', e, q⟩ := v
    unfold setO at e
    rw [if_pos w] at e
    cases e; exact q
  · intro q
    exact ⟨(), _, by unfold setO; rw [if_pos w], q⟩
theorem v_setO_set {Q : Unit → Sto → Prop} {n : Nat} (o p : O) (w : n < h.length) : V (setO n o) (h.set n p) Q ↔ Q () (h.set n o) := by
  rw [v_setO (h := h.set n p) o (by rw [List.length_set]; exact w), List.set_set]
theorem vr_ite (c : Prop) [Decidable c] (m n : M α) : V (if c then m else n) h Q ↔ if c then V m h Q else V n h Q := by
  split <;> exact Iff.rfl
theorem v_nox (m : M α) : V (nox m) h Q ↔ V m h Q := by
  unfold V nox
  cases m h <;> simp
end
/-! operations -/
theorem r_add (m : Bool) (i j : Int) : opT m .add (.int i) (.int j) = ret (.int (i + j)) := rfl
theorem r_sub (m : Bool) (i j : Int) : opT m .sub (.int i) (.int j) = ret (.int (i - j)) := rfl
theorem r_mulL (m : Bool) {i j : Int} (h : -18446744073709551616 < i ∧ i < 18446744073709551616) : opT m .mul (.int i) (.int j) = ret (.int (i * j)) := by
  have e : rng64 i = true := by
    unfold rng64
    rw [Bool.and_eq_true, decide_eq_true_eq, decide_eq_true_eq]
    exact h
  show (if (rng64 i || rng64 j) = true then ret (T.int (i * j)) else no) = _
  rw [e, Bool.true_or, if_pos rfl]
theorem r_mulR (m : Bool) {i j : Int} (h : -18446744073709551616 < j ∧ j < 18446744073709551616) : opT m .mul (.int i) (.int j) = ret (.int (i * j)) := by
  have e : rng64 j = true := by
    unfold rng64
    rw [Bool.and_eq_true, decide_eq_true_eq, decide_eq_true_eq]
    exact h
  show (if (rng64 i || rng64 j) = true then ret (T.int (i * j)) else no) = _
  rw [e, Bool.or_true, if_pos rfl]
theorem r_mod (m : Bool) {i j : Int} (h : 0 < j) : opT m .mod (.int i) (.int j) = ret (.int (i % j)) := if_pos h
theorem r_fdiv (m : Bool) {i j : Int} (h : 0 < j) (h' : j < 2 ^ 256) : opT m .fdiv (.int i) (.int j) = ret (.int (i / j)) := if_pos ⟨h, h'⟩
theorem r_divmod (m : Bool) {i j : Int} (h : 0 < j) (h' : j < 2 ^ 256) : primT .divmod m [.int i, .int j] = ret (.tup [.int (i / j), .int (i % j)]) := if_pos ⟨h, h'⟩
theorem r_pint (m : Bool) (i : Int) : primT .int m [.int i] = ret (.int i) := rfl
theorem r_pintb (m : Bool) (b : Bool) : primT .int m [.bl b] = ret (.int (if b then 1 else 0)) := rfl
theorem r_abs (m : Bool) (i : Int) : primT .abs m [.int i] = ret (.int (if i < 0 then -i else i)) := rfl
theorem r_min2 (m : Bool) (i j : Int) : primT .min2 m [.int i, .int j] = ret (.int (if j < i then j else i)) := rfl
theorem r_max2 (m : Bool) (i j : Int) : primT .max2 m [.int i, .int j] = ret (.int (if j > i then j else i)) := rfl
theorem r_lent (m : Bool) (xs : List T) : primT .len m [.tup xs] = ret (.int xs.length) := rfl
theorem r_lenl (m : Bool) (xs : List T) : primT .len m [.lst xs] = ret (.int xs.length) := rfl
theorem r_lens (m : Bool) (xs : List Int) : primT .len m [.scr xs] = ret (.int xs.length) := rfl
theorem r_lenr (m : Bool) (n : Nat) : primT .len m [.ref n] = bnd (getO n) fun o => bnd (match o with
    | .lst xs => ret xs.length
    | _ => no) fun n => ret (.int n) := bnd_assoc _ _ _
theorem r_tupl (m : Bool) (xs : List T) : primT .tuple m [.lst xs] = ret (.tup xs) := rfl
theorem r_tupt (m : Bool) (xs : List T) : primT .tuple m [.tup xs] = ret (.tup xs) := rfl
theorem r_negi (i : Int) : negT (.int i) = ret (.int (-i)) := rfl
theorem r_trub (b : Bool) : truT (.bl b) = ret b := rfl
theorem r_trui (i : Int) : truT (.int i) = ret (i != 0) := rfl
theorem r_lt (i j : Int) : cmpT .lt (.int i) (.int j) = some (decide (i < j)) := rfl
theorem r_le (i j : Int) : cmpT .le (.int i) (.int j) = some (decide (i ≤ j)) := rfl
theorem r_gt (i j : Int) : cmpT .gt (.int i) (.int j) = some (decide (j < i)) := rfl
theorem r_ge (i j : Int) : cmpT .ge (.int i) (.int j) = some (decide (j ≤ i)) := rfl
theorem r_isb (a b : Bool) : cmpT .is (.bl a) (.bl b) = some (decide (a = b)) := rfl
theorem r_isnb (a b : Bool) : cmpT .isn (.bl a) (.bl b) = some (!decide (a = b)) := rfl
theorem r_idxt (xs : List T) (i : Int) : idxT (.tup xs) (.int i) = ofO (L2.atI xs i) := rfl
theorem r_idxl (xs : List T) (i : Int) : idxT (.lst xs) (.int i) = ofO (L2.atI xs i) := rfl
theorem r_idxs (xs : List Int) (i : Int) : idxT (.scr xs) (.int i) = bnd (ofO (L2.atI xs i)) fun k => ret (.int k) := rfl
theorem r_idxr (n : Nat) (i : Int) : idxT (.ref n) (.int i) = bnd (getO n) fun
    | .lst xs => atT xs i
    | _ => no := rfl
theorem r_atT (xs : List T) (i : Int) : atT xs i = ofO (L2.atI xs i) := rfl
theorem r_at0 {α : Type} (a : α) (r : List α) : L2.atI (a :: r) 0 = some a := L2.atI_nat (j := 0) rfl
theorem r_at1 {α : Type} (a b : α) (r : List α) : L2.atI (a :: b :: r) 1 = some b := L2.atI_nat (j := 1) rfl
theorem r_at2 {α : Type} (a b c : α) (r : List α) : L2.atI (a :: b :: c :: r) 2 = some c := L2.atI_nat (j := 2) rfl
theorem r_ix30 : L2.ixN 3 0 = some 0 := rfl
theorem r_ix31 : L2.ixN 3 1 = some 1 := rfl
theorem r_ix32 : L2.ixN 3 2 = some 2 := rfl
theorem r_mkF (xs : List T) : mkL false xs = ret (.lst xs) := rfl
theorem r_mkT (xs : List T) : mkL true xs = newO (.lst xs) := rfl
theorem r_itt (xs : List T) : itemsT (.tup xs) = ret xs := rfl
theorem r_itl (xs : List T) : itemsT (.lst xs) = ret xs := rfl
theorem r_its (xs : List Int) : itemsT (.scr xs) = ret (xs.map .int) := rfl
theorem r_itr (n : Nat) : itemsT (.ref n) = bnd (getO n) fun
    | .lst xs => ret xs
    | _ => no := rfl
theorem r_stt (xs ys : List T) : stillT xs (.tup ys) = ret () := rfl
theorem r_stl (xs ys : List T) : stillT xs (.lst ys) = ret () := rfl
theorem r_sts (xs : List T) (ys : List Int) : stillT xs (.scr ys) = ret () := rfl
theorem r_isii (t : Ty) (i : Int) : isiM t (.int i) = ret (.bl (kdTy .int t)) := rfl
theorem r_isib (t : Ty) (i : Bool) : isiM t (.bl i) = ret (.bl (kdTy .bool t)) := rfl
theorem r_isit (t : Ty) (xs : List T) : isiM t (.tup xs) = ret (.bl (kdTy .tup t)) := rfl
theorem r_isil (t : Ty) (xs : List T) : isiM t (.lst xs) = ret (.bl (kdTy .lst t)) := rfl
theorem r_isis (t : Ty) (x : Str) : isiM t (.str x) = ret (.bl (kdTy .str t)) := rfl
theorem r_k1 : kdTy .int .int = true := rfl
theorem r_k2 : kdTy .int .bool = false := rfl
theorem r_k3 : kdTy .int .tup = false := rfl
theorem r_k4 : kdTy .int .str = false := rfl
theorem r_k5 : kdTy .bool .bool = true := rfl
theorem r_k6 : kdTy .bool .int = true := rfl
theorem r_k7 : kdTy .bool .tup = false := rfl
theorem r_k8 : kdTy .tup .tup = true := rfl
theorem r_k9 : kdTy .tup .int = false := rfl
theorem r_k10 : kdTy .tup .bool = false := rfl
theorem r_k11 : kdTy .str .str = true := rfl
theorem r_k12 : kdTy .str .tup = false := rfl
theorem r_k13 : kdTy .str .int = false := rfl
theorem r_k14 : kdTy .str .bool = false := rfl
theorem r_k15 : kdTy .lst .tup = false := rfl
/-! syntax -/
section
variable {h : Sto}
theorem v_es0 {Q : List T → Sto → Prop} (σ : Env) : V (cEs [] σ) h Q ↔ Q [] h := v_ret _
theorem v_es1 {Q : List T → Sto → Prop} (e : CE) (es : List CE) (σ : Env) : V (cEs (e :: es) σ) h Q ↔ V (e σ) h fun x h1 => V (cEs es σ) h1 fun xs h2 => Q (x :: xs) h2 := by
  show V (bnd _ fun x => bnd _ fun xs => ret _) h Q ↔ _; simp only [v_bnd, v_ret]
theorem v_cO0 {Q : Option Int → Sto → Prop} (σ : Env) : V (cO none σ) h Q ↔ Q none h := v_ret _
theorem v_cO1 {Q : Option Int → Sto → Prop} (e : CE) (σ : Env) : V (cO (some e) σ) h Q ↔ V (e σ) h fun x h1 => V (match x with
    | .int i => ret (some i)
    | _ => no) h1 Q := by
  unfold cO; simp only [v_bnd]; try exact Iff.rfl
theorem v_ifs0 {Q : Bool → Sto → Prop} (σ : Env) : V (cIfs [] σ) h Q ↔ Q true h := v_ret _
theorem v_ifs1 {Q : Bool → Sto → Prop} (c : CE) (σ : Env) : V (cIfs [c] σ) h Q ↔ V (c σ) h fun x h1 => V (truT x) h1 Q := by
  unfold cIfs; simp only [v_bnd]
section
variable {Q : T → Sto → Prop} (σ : Env) (a b c d : CE)
theorem v_var (i : Nat) : V (cVar i σ) h Q ↔ V (ofO (σ[i]?.bind id)) h Q := Iff.rfl
theorem v_con (t : T) : V (cCon t σ) h Q ↔ Q t h := v_ret _
theorem v_glob {F : Type} (P : Prog F) (g : Nat) : V (cGlob P g σ) h Q ↔ V (ofO (P.glob g)) h Q := Iff.rfl
theorem v_bin (op : Op) (m : Bool) : V (cBin op m a b σ) h Q ↔ V (a σ) h fun x h1 => V (b σ) h1 fun y h2 => V (opT m op x y) h2 Q := by
  unfold cBin; simp only [v_bnd]
theorem v_neg : V (cNeg a σ) h Q ↔ V (a σ) h fun x h1 => V (negT x) h1 Q := by
  unfold cNeg; simp only [v_bnd]
theorem v_not : V (cNot a σ) h Q ↔ V (a σ) h fun x h1 => V (truT x) h1 fun b h2 => Q (.bl (!b)) h2 := by
  unfold cNot; simp only [v_bnd, v_ret]
theorem v_and : V (cAnd a b σ) h Q ↔ V (a σ) h fun x h1 => V (truT x) h1 fun t h2 => if t then V (b σ) h2 Q else Q x h2 := by
  unfold cAnd; simp only [v_bnd, vr_ite, v_ret]
theorem v_or : V (cOr a b σ) h Q ↔ V (a σ) h fun x h1 => V (truT x) h1 fun t h2 => if t then Q x h2 else V (b σ) h2 Q := by
  unfold cOr; simp only [v_bnd, vr_ite, v_ret]
theorem v_ite : V (cIte c a b σ) h Q ↔ V (c σ) h fun x h1 => V (truT x) h1 fun t h2 => if t then V (a σ) h2 Q else V (b σ) h2 Q := by
  unfold cIte; simp only [v_bnd, vr_ite, v_ret]
theorem v_cmp (op : Cm) : V (cCmp op a b σ) h Q ↔ V (a σ) h fun x h1 => V (b σ) h1 fun y h2 => V (ofO (cmpT op x y)) h2 fun t h3 => Q (.bl t) h3 := by
  unfold cCmp; simp only [v_bnd, v_ret]
theorem v_cmp2 (op op' : Cm) : V (cCmp2 op op' a b c σ) h Q ↔ V (a σ) h fun x h1 => V (b σ) h1 fun y h2 => V (ofO (cmpT op x y)) h2 fun t h3 => if t then V (c σ) h3 fun z h4 => V (ofO (cmpT op' y z)) h4 fun u h5 => Q (.bl u) h5 else Q (.bl false) h3 := by
  unfold cCmp2; simp only [v_bnd, v_ret, vr_ite]
theorem v_cmp3 (op op' op'' : Cm) : V (cCmp3 op op' op'' a b c d σ) h Q ↔ V (a σ) h fun x h1 => V (b σ) h1 fun y h2 => V (ofO (cmpT op x y)) h2 fun t h3 => if t then V (c σ) h3 fun z h4 => V (ofO (cmpT op' y z)) h4 fun u h5 => if u then V (d σ) h5 fun w h6 => V (ofO (cmpT op'' z w)) h6 fun r h7 => Q (.bl r) h7 else Q (.bl false) h5 else Q (.bl false) h3 := by
  unfold cCmp3; simp only [v_bnd, v_ret, vr_ite]
theorem v_eqo {F : Type} (P : Prog F) (G : F → List T → M T) (m : Nat) : V (cEqo P G m a b σ) h Q ↔ V (a σ) h fun x h1 => V (b σ) h1 fun y h2 => V (eqoT P G m x y) h2 Q := by
  unfold cEqo; simp only [v_bnd]
theorem v_tup (es : List CE) : V (cTup es σ) h Q ↔ V (cEs es σ) h fun xs h1 => xs.length ≤ sizeLine ∧ Q (.tup xs) h1 := by
  unfold cTup; simp only [v_bnd, vr_ite, v_no, v_ret, if_false_right]
theorem v_lst (m : Bool) (es : List CE) : V (cLst m es σ) h Q ↔ V (cEs es σ) h fun xs h1 => xs.length ≤ sizeLine ∧ V (mkL m xs) h1 Q := by
  unfold cLst; simp only [v_bnd, vr_ite, v_no, v_ret, if_false_right]
theorem v_idx : V (cIdx a b σ) h Q ↔ V (a σ) h fun x h1 => V (b σ) h1 fun y h2 => V (idxT x y) h2 Q := by
  unfold cIdx; simp only [v_bnd]
theorem v_slc (m : Bool) (lo hi : Option CE) : V (cSlc m a lo hi σ) h Q ↔ V (a σ) h fun x h1 => V (cO lo σ) h1 fun l h2 => V (cO hi σ) h2 fun u h3 => V (slcT m l u x) h3 Q := by
  unfold cSlc; simp only [v_bnd]
theorem v_fld (f : Nat) : V (cFld a f σ) h Q ↔ V (a σ) h fun x h1 => V (fldT f x) h1 Q := by
  unfold cFld; simp only [v_bnd]
theorem v_call {F : Type} (P : Prog F) (G : F → List T → M T) (f : F) (es : List CE) (ks : List Nat) (kes : List CE) : V (cCall P G f es ks kes σ) h Q ↔ V (cEs es σ) h fun vs h1 => V (cEs kes σ) h1 fun ws h2 => V (bindA P f es.length ks (vs ++ ws)) h2 fun us h3 => V (G f us) h3 Q := by
  unfold cCall; simp only [v_bnd]
theorem v_make (mk : Nat → Nat → List Nat → List T → M T) (k : Nat) (es : List CE) (ks : List Nat) (kes : List CE) : V (cMake mk k es ks kes σ) h Q ↔ V (cEs es σ) h fun vs h1 => V (cEs kes σ) h1 fun ws h2 => V (mk k (es.length + 1) ks (vs ++ ws)) h2 Q := by
  unfold cMake; simp only [v_bnd]
theorem v_meth {F : Type} (P : Prog F) (G : F → List T → M T) (m : Nat) (es : List CE) (ks : List Nat) (kes : List CE) : V (cMeth P G a m es ks kes σ) h Q ↔ V (a σ) h fun x h1 => V (clsT x) h1 fun k h2 => V (ofO (P.meth k m)) h2 fun f h3 => V (cEs es σ) h3 fun vs h4 => V (cEs kes σ) h4 fun ws h5 => V (bindA P f (es.length + 1) ks (x :: (vs ++ ws))) h5 fun us h6 => V (G f us) h6 Q := by
  unfold cMeth; simp only [v_bnd]
theorem v_prim (p : Prim) (m : Bool) (es : List CE) : V (cPrim p m es σ) h Q ↔ V (cEs es σ) h fun xs h1 => V (primT p m xs) h1 Q := by
  unfold cPrim; simp only [v_bnd]
theorem v_isi (t : Ty) : V (cIsi a t σ) h Q ↔ V (a σ) h fun x h1 => V (isiM t x) h1 Q := by
  unfold cIsi; simp only [v_bnd]
theorem v_bm (p : Bm) (es : List CE) : V (cBm p a es σ) h Q ↔ V (a σ) h fun x h1 => V (bmC p x) h1 fun _ h2 => V (cEs es σ) h2 fun vs h3 => V (bmT p x vs) h3 Q := by
  unfold cBm; simp only [v_bnd]
theorem v_lc (m : Bool) (tg : CG) (it : CI) (ifs : List CE) (elt : CE) (own : List Nat) : V (cLc m tg it ifs elt own σ) h Q ↔ V (it σ) h fun r h1 => V (compL r.2 (fun x => bnd (tg x (wipe σ own)) fun σ' => bnd (cIfs ifs σ') fun t =>
      if t then bnd (elt σ') fun y => ret (some y) else ret none) r.1) h1 fun ys h2 => ys.length ≤ sizeLine ∧ V (mkL m ys) h2 Q := by
  unfold cLc; simp only [v_bnd, v_nox, vr_ite, v_no, if_false_right]
end
section
variable {Q : List T × M Unit → Sto → Prop} (σ : Env) (a b : CE)
theorem v_rng : V (cRng a b σ) h Q ↔ V (a σ) h fun x h1 => V (b σ) h1 fun y h2 => V (match x, y with
    | .int i, .int j => if -(2 ^ 62) ≤ i ∧ i < 2 ^ 62 ∧ -(2 ^ 62) ≤ j ∧ j < 2 ^ 62 then ret ((List.range (j - i).toNat).map fun (k : Nat) => T.int (i + k), ret ()) else no
    | _, _ => no) h2 Q := by
  unfold cRng; simp only [v_bnd]; try exact Iff.rfl
theorem v_enum (k : Int) : V (cEnum k a σ) h Q ↔ V (a σ) h fun x h1 => V (itemsT x) h1 fun xs h2 => Q (xs.zipIdx.map fun p => .tup [.int (k + (p.2 : Nat)), p.1], stillT xs x) h2 := by
  unfold cEnum; simp only [v_bnd, v_ret]
theorem v_zip : V (cZip a b σ) h Q ↔ V (a σ) h fun x h1 => V (b σ) h1 fun y h2 => V (itemsT x) h2 fun xs h3 => V (itemsT y) h3 fun ys h4 => Q ((xs.zip ys).map fun p => .tup [p.1, p.2], bnd (stillT xs x) fun _ => stillT ys y) h4 := by
  unfold cZip; simp only [v_bnd, v_ret]
theorem v_seq : V (cSeq a σ) h Q ↔ V (a σ) h fun x h1 => V (itemsT x) h1 fun xs h2 => Q (xs, stillT xs x) h2 := by
  unfold cSeq; simp only [v_bnd, v_ret]
end
section
variable {Q : Env → Sto → Prop} (σ : Env) (v : T)
theorem v_gName {i : Nat} (e : i < σ.length) : V (gName i v σ) h Q ↔ Q (σ.set i (some v)) h := by
  unfold gName; rw [if_pos e]; exact v_ret _
theorem v_gs0 : V (cGs [] [] σ) h Q ↔ Q σ h := v_ret _
theorem v_gs1 (t : CG) (ts : List CG) (xs : List T) : V (cGs (t :: ts) (v :: xs) σ) h Q ↔ V (t v σ) h fun σ' h1 => V (cGs ts xs σ') h1 Q := by
  exact v_bnd _ _
theorem v_gTup {ts : List CG} {xs : List T} (e : ts.length = xs.length) : V (gTupC ts (.tup xs) σ) h Q ↔ V (cGs ts xs σ) h Q := by
  show V (if ts.length = xs.length then cGs ts xs σ else no) h Q ↔ _
  rw [if_pos e]
theorem v_gTupL {ts : List CG} {xs : List T} (e : ts.length = xs.length) : V (gTupC ts (.lst xs) σ) h Q ↔ V (cGs ts xs σ) h Q := by
  show V (bnd (ret xs) fun xs => if ts.length = xs.length then cGs ts xs σ else no) h Q ↔ _
  rw [bnd_ret, if_pos e]
theorem v_gSub (o i : CE) : V (gSubC o i v σ) h Q ↔ V (o σ) h fun x h1 => V (i σ) h1 fun y h2 => V (match x, y with
    | .ref n, .int k => bnd (getO n) fun
      | .lst xs => bnd (ofO (L2.ixN xs.length k)) fun j => bnd (setO n (.lst (xs.set j v))) fun _ => ret σ
      | _ => no
    | _, _ => no) h2 Q := by
  unfold gSubC; simp only [v_bnd]; try exact Iff.rfl
theorem v_gFld (o : CE) (f : Nat) : V (gFldC o f v σ) h Q ↔ V (o σ) h fun x h1 => V (match x with
    | .ref n => bnd (getO n) fun
      | .ins c fs vs => if fs.length < 900 then bnd (setO n (.ins c (putV f v fs vs).1 (putV f v fs vs).2)) fun _ => ret σ else no
      | _ => no
    | _ => no) h1 Q := by
  unfold gFldC; simp only [v_bnd]; try exact Iff.rfl
end
section
variable {Q : Fl × Env → Sto → Prop} (σ : Env) (e : CE)
theorem v_ss0 : V (sSs [] σ) h Q ↔ Q (.nx, σ) h := v_ret _
theorem v_ss1 (s : CS) (r : List CS) : V (sSs (s :: r) σ) h Q ↔ V (s σ) h fun q h1 => match q.1 with
    | .nx => V (sSs r q.2) h1 Q
    | .rt v => Q (.rt v, q.2) h1 := by
  show V (bnd _ _) h Q ↔ _
  rw [v_bnd]
  have : ∀ (q : Fl × Env) (h1 : Sto), V (match q.1 with
    | .nx => sSs r q.2
    | .rt v => ret (.rt v, q.2)) h1 Q ↔ (match q.1 with
    | .nx => V (sSs r q.2) h1 Q
    | .rt v => Q (.rt v, q.2) h1) := fun q h1 => by
    obtain ⟨f, σ'⟩ := q
    cases f with
    | nx => exact Iff.rfl
    | rt v => exact v_ret _
  constructor
  · exact fun w => w.mono fun q h1 => (this q h1).mp
  · exact fun w => w.mono fun q h1 => (this q h1).mpr
theorem v_expr : V (sExpr e σ) h Q ↔ V (e σ) h fun _ h1 => Q (.nx, σ) h1 := by
  unfold sExpr; simp only [v_bnd, v_ret]
theorem v_asg (tg : CG) : V (sAsg tg e σ) h Q ↔ V (e σ) h fun v h1 => V (tg v σ) h1 fun σ' h2 => Q (.nx, σ') h2 := by
  unfold sAsg; simp only [v_bnd, v_ret]
theorem v_aug (i : Nat) (op : Op) : V (sAug i op e σ) h Q ↔ V (ofO (σ[i]?.bind id)) h fun x h1 => V (e σ) h1 fun y h2 => V (match op, x, y with
      | .add, .int a, .int b => ret (.int (a + b))
      | .sub, .int a, .int b => ret (.int (a - b))
      | _, _, _ => (no : M T)) h2 fun v h3 => Q (.nx, σ.set i (some v)) h3 := by
  unfold sAug; simp only [v_bnd, v_ret]; try exact Iff.rfl
theorem v_sret : V (sRet e σ) h Q ↔ V (e σ) h fun v h1 => Q (.rt v, σ) h1 := by
  unfold sRet; simp only [v_bnd, v_ret]
theorem v_sif (a b : List CS) : V (sIff e a b σ) h Q ↔ V (e σ) h fun x h1 => V (truT x) h1 fun t h2 => if t then V (sSs a σ) h2 Q else V (sSs b σ) h2 Q := by
  unfold sIff; simp only [v_bnd, vr_ite]
theorem v_rai : V (sRai σ) h Q ↔ False := v_no
theorem v_pass : V (sPass σ) h Q ↔ Q (.nx, σ) h := v_ret _
theorem v_for (tg : CG) (it : CI) (b : List CS) : V (sFor tg it b σ) h Q ↔ V (it σ) h fun r h1 => V (forL r.2 (fun x σ => bnd (tg x σ) (sSs b)) r.1 σ) h1 Q := by
  unfold sFor; simp only [v_bnd]
end
end
theorem r_wi0 (σ : Env) : wipe σ [] = σ := rfl
theorem r_wi1 (σ : Env) (v : Nat) (vs : List Nat) : wipe σ (v :: vs) = (wipe σ vs).set v none := rfl
theorem r_bin0 {F : Type} (P : Prog F) (f : F) (n : Nat) (ks : List Nat) (vs : List T) (e : P.plan f n ks = none) (e1 : ks = []) (e2 : n = (P.fn f).arity) : bindA P f n ks vs = ret vs := by
  subst e1 e2
  unfold bindA
  rw [e]
  simp
theorem r_line : (0 : Nat) ≤ sizeLine ∧ 1 ≤ sizeLine ∧ 2 ≤ sizeLine ∧ 3 ≤ sizeLine ∧ 4 ≤ sizeLine := by decide +kernel
/-! calls -/
section
variable {F : Type} (S : Sh F)
theorem callS_s (m : Nat) (f : F) (as : List T) : callS S (m + 2) f as = modS (S.P.fn f).mode as (runS (S.P.fn f).arity (S.P.fn f).nloc (S.bs (callS S (m + 1)) (makeS S (m + 1)) f) as) := by
  rw [callS]
/-- a def that leaves the store: what it answers -/
theorem callS_pure {f : F} {m : Nat} {as : List T} {v' : T} (e : (S.P.fn f).mode = .pure) (e1 : (frzWs (r0 0) as).isSome = true)
    (w : V (runS (S.P.fn f).arity (S.P.fn f).nloc (S.bs (callS S (m + 1)) (makeS S (m + 1)) f) as) [] fun v h' => frz 0 h' v = some v') : callS S (m + 2) f as = ret v' := by
  rw [callS_s, e]
  obtain ⟨v, h', e2, q⟩ := w
  show (if (frzWs (r0 0) as).isSome then lift (fin 0 (runS (S.P.fn f).arity (S.P.fn f).nloc (S.bs (callS S (m + 1)) (makeS S (m + 1)) f) as [])) else no) = _
  rw [if_pos e1, e2]
  show lift (match frz 0 h' v with
    | some v' => if (h'.take 0).all (cloO 0) then .ok v' (h'.take 0) else .no
    | none => .no) = _
  rw [q]
  rfl
theorem v_runS {h : Sto} {Q : T → Sto → Prop} {ar nl : Nat} {b : List CS} {as : List T} (e : as.length = ar) : V (runS ar nl b as) h Q ↔ V (sSs b (as.map some ++ List.replicate nl none)) h fun r h1 => Q (match r.1 with
    | .nx => .non
    | .rt v => v) h1 := by
  unfold runS
  rw [if_pos e, v_bnd]
  have : ∀ (q : Fl × Env) (h1 : Sto), V (match q.1 with
    | .nx => ret .non
    | .rt v => ret v) h1 Q ↔ Q (match q.1 with
    | .nx => .non
    | .rt v => v) h1 := fun q h1 => by
    obtain ⟨f, σ'⟩ := q
    cases f with
    | nx => exact v_ret _
    | rt v => exact v_ret _
  constructor
  · exact fun w => w.mono fun q h1 => (this q h1).mp
  · exact fun w => w.mono fun q h1 => (this q h1).mpr
end
theorem r_frzb (n : Nat) (h : Sto) (b : Bool) : frz n h (.bl b) = some (.bl b) := rfl
theorem r_frzi (n : Nat) (h : Sto) (b : Int) : frz n h (.int b) = some (.int b) := rfl
theorem r_frzn (n : Nat) (h : Sto) : frz n h .non = some .non := rfl
theorem r_frzs (n : Nat) (h : Sto) (b : Str) : frz n h (.str b) = some (.str b) := rfl

/-- holds what comes behind: no rewriting within it -/
structure Kp {α : Type} (Q : α → Sto → Prop) : Type where
/-- a run that ends so; what comes behind is left alone -/
def W {α : Type} (m : M α) (h : Sto) (Q : α → Sto → Prop) (_k : Kp Q := ⟨⟩) : Prop := V m h Q
section
variable {α β : Type} {h : Sto} {Q : α → Sto → Prop}
theorem W.mono {m : M α} {Q' : α → Sto → Prop} (w : W m h Q) (t : ∀ a h', Q a h' → Q' a h') : W m h Q' := by
  first
    | exact V.mono ..
    | exact V.mono .. (by assumption)
    | (apply V.mono <;> assumption)
theorem W.of {m : M α} {a : α} {h' : Sto} (e : m h = .ok a h') (q : Q a h') : W m h Q := by
  first
    | exact V.of ..
    | exact V.of .. (by assumption)
    | (apply V.of <;> assumption)
theorem r_ret (a : α) : W (ret a) h Q ↔ Q a h := by
  first
    | exact v_ret ..
    | exact v_ret .. (by assumption)
    | (apply v_ret <;> assumption)
theorem r_no : W (no : M α) h Q ↔ False := by
  first
    | exact v_no ..
    | exact v_no .. (by assumption)
    | (apply v_no <;> assumption)
theorem r_bnd (m : M β) (f : β → M α) : W (bnd m f) h Q ↔ W m h fun b h' => W (f b) h' Q := by
  first
    | exact v_bnd ..
    | exact v_bnd .. (by assumption)
    | (apply v_bnd <;> assumption)
theorem r_newO {Q : T → Sto → Prop} (o : O) : W (newO o) h Q ↔ Q (.ref h.length) (h ++ [o]) := by
  first
    | exact v_newO ..
    | exact v_newO .. (by assumption)
    | (apply v_newO <;> assumption)
theorem r_getO {Q : O → Sto → Prop} {n : Nat} {o : O} (w : h[n]? = some o) : W (getO n) h Q ↔ Q o h := by
  first
    | exact v_getO ..
    | exact v_getO .. (by assumption)
    | (apply v_getO <;> assumption)
theorem r_getO_set {Q : O → Sto → Prop} {n : Nat} {o : O} (w : n < h.length) : W (getO n) (h.set n o) Q ↔ Q o (h.set n o) := by
  first
    | exact v_getO_set ..
    | exact v_getO_set .. (by assumption)
    | (apply v_getO_set <;> assumption)
theorem r_setO {Q : Unit → Sto → Prop} {n : Nat} (o : O) (w : n < h.length) : W (setO n o) h Q ↔ Q () (h.set n o) := by
  first
    | exact v_setO ..
    | exact v_setO .. (by assumption)
    | (apply v_setO <;> assumption)
theorem r_setO_set {Q : Unit → Sto → Prop} {n : Nat} (o p : O) (w : n < h.length) : W (setO n o) (h.set n p) Q ↔ Q () (h.set n o) := by
  first
    | exact v_setO_set ..
    | exact v_setO_set .. (by assumption)
    | (apply v_setO_set <;> assumption)
theorem r_ite (c : Prop) [Decidable c] (m n : M α) : W (if c then m else n) h Q ↔ if c then W m h Q else W n h Q := vr_ite ..
theorem r_nox (m : M α) : W (nox m) h Q ↔ W m h Q := by
  first
    | exact v_nox ..
    | exact v_nox .. (by assumption)
    | (apply v_nox <;> assumption)
end
section
variable {h : Sto}
theorem w_es0 {Q : List T → Sto → Prop} (σ : Env) : W (cEs [] σ) h Q ↔ Q [] h := by
  first
    | exact v_es0 ..
    | exact v_es0 .. (by assumption)
    | (apply v_es0 <;> assumption)
theorem w_es1 {Q : List T → Sto → Prop} (e : CE) (es : List CE) (σ : Env) : W (cEs (e :: es) σ) h Q ↔ W (e σ) h fun x h1 => W (cEs es σ) h1 fun xs h2 => Q (x :: xs) h2 := by
  first
    | exact v_es1 ..
    | exact v_es1 .. (by assumption)
    | (apply v_es1 <;> assumption)
theorem w_cO0 {Q : Option Int → Sto → Prop} (σ : Env) : W (cO none σ) h Q ↔ Q none h := by
  first
    | exact v_cO0 ..
    | exact v_cO0 .. (by assumption)
    | (apply v_cO0 <;> assumption)
theorem w_cO1 {Q : Option Int → Sto → Prop} (e : CE) (σ : Env) : W (cO (some e) σ) h Q ↔ W (e σ) h fun x h1 => W (match x with
    | .int i => ret (some i)
    | _ => no) h1 Q := by
  first
    | exact v_cO1 ..
    | exact v_cO1 .. (by assumption)
    | (apply v_cO1 <;> assumption)
theorem w_ifs0 {Q : Bool → Sto → Prop} (σ : Env) : W (cIfs [] σ) h Q ↔ Q true h := by
  first
    | exact v_ifs0 ..
    | exact v_ifs0 .. (by assumption)
    | (apply v_ifs0 <;> assumption)
theorem w_ifs1 {Q : Bool → Sto → Prop} (c : CE) (σ : Env) : W (cIfs [c] σ) h Q ↔ W (c σ) h fun x h1 => W (truT x) h1 Q := by
  first
    | exact v_ifs1 ..
    | exact v_ifs1 .. (by assumption)
    | (apply v_ifs1 <;> assumption)
section
variable {Q : T → Sto → Prop} (σ : Env) (a b c d : CE)
theorem w_var (i : Nat) : W (cVar i σ) h Q ↔ W (ofO (σ[i]?.bind id)) h Q := by
  first
    | exact v_var ..
    | exact v_var .. (by assumption)
    | (apply v_var <;> assumption)
theorem w_con (t : T) : W (cCon t σ) h Q ↔ Q t h := by
  first
    | exact v_con ..
    | exact v_con .. (by assumption)
    | (apply v_con <;> assumption)
theorem w_glob {F : Type} (P : Prog F) (g : Nat) : W (cGlob P g σ) h Q ↔ W (ofO (P.glob g)) h Q := by
  first
    | exact v_glob ..
    | exact v_glob .. (by assumption)
    | (apply v_glob <;> assumption)
theorem w_bin (op : Op) (m : Bool) : W (cBin op m a b σ) h Q ↔ W (a σ) h fun x h1 => W (b σ) h1 fun y h2 => W (opT m op x y) h2 Q := by
  first
    | exact v_bin ..
    | exact v_bin .. (by assumption)
    | (apply v_bin <;> assumption)
theorem w_neg : W (cNeg a σ) h Q ↔ W (a σ) h fun x h1 => W (negT x) h1 Q := by
  first
    | exact v_neg ..
    | exact v_neg .. (by assumption)
    | (apply v_neg <;> assumption)
theorem w_not : W (cNot a σ) h Q ↔ W (a σ) h fun x h1 => W (truT x) h1 fun b h2 => Q (.bl (!b)) h2 := by
  first
    | exact v_not ..
    | exact v_not .. (by assumption)
    | (apply v_not <;> assumption)
theorem w_and : W (cAnd a b σ) h Q ↔ W (a σ) h fun x h1 => W (truT x) h1 fun t h2 => if t then W (b σ) h2 Q else Q x h2 := by
  first
    | exact v_and ..
    | exact v_and .. (by assumption)
    | (apply v_and <;> assumption)
theorem w_or : W (cOr a b σ) h Q ↔ W (a σ) h fun x h1 => W (truT x) h1 fun t h2 => if t then Q x h2 else W (b σ) h2 Q := by
  first
    | exact v_or ..
    | exact v_or .. (by assumption)
    | (apply v_or <;> assumption)
theorem w_ite : W (cIte c a b σ) h Q ↔ W (c σ) h fun x h1 => W (truT x) h1 fun t h2 => if t then W (a σ) h2 Q else W (b σ) h2 Q := by
  first
    | exact v_ite ..
    | exact v_ite .. (by assumption)
    | (apply v_ite <;> assumption)
theorem w_cmp (op : Cm) : W (cCmp op a b σ) h Q ↔ W (a σ) h fun x h1 => W (b σ) h1 fun y h2 => W (ofO (cmpT op x y)) h2 fun t h3 => Q (.bl t) h3 := by
  first
    | exact v_cmp ..
    | exact v_cmp .. (by assumption)
    | (apply v_cmp <;> assumption)
theorem w_cmp2 (op op' : Cm) : W (cCmp2 op op' a b c σ) h Q ↔ W (a σ) h fun x h1 => W (b σ) h1 fun y h2 => W (ofO (cmpT op x y)) h2 fun t h3 => if t then W (c σ) h3 fun z h4 => W (ofO (cmpT op' y z)) h4 fun u h5 => Q (.bl u) h5 else Q (.bl false) h3 := by
  first
    | exact v_cmp2 ..
    | exact v_cmp2 .. (by assumption)
    | (apply v_cmp2 <;> assumption)
theorem w_cmp3 (op op' op'' : Cm) : W (cCmp3 op op' op'' a b c d σ) h Q ↔ W (a σ) h fun x h1 => W (b σ) h1 fun y h2 => W (ofO (cmpT op x y)) h2 fun t h3 => if t then W (c σ) h3 fun z h4 => W (ofO (cmpT op' y z)) h4 fun u h5 => if u then W (d σ) h5 fun w h6 => W (ofO (cmpT op'' z w)) h6 fun r h7 => Q (.bl r) h7 else Q (.bl false) h5 else Q (.bl false) h3 := by
  first
    | exact v_cmp3 ..
    | exact v_cmp3 .. (by assumption)
    | (apply v_cmp3 <;> assumption)
theorem w_eqo {F : Type} (P : Prog F) (G : F → List T → M T) (m : Nat) : W (cEqo P G m a b σ) h Q ↔ W (a σ) h fun x h1 => W (b σ) h1 fun y h2 => W (eqoT P G m x y) h2 Q := by
  first
    | exact v_eqo ..
    | exact v_eqo .. (by assumption)
    | (apply v_eqo <;> assumption)
theorem w_tup (es : List CE) : W (cTup es σ) h Q ↔ W (cEs es σ) h fun xs h1 => xs.length ≤ sizeLine ∧ Q (.tup xs) h1 := by
  first
    | exact v_tup ..
    | exact v_tup .. (by assumption)
    | (apply v_tup <;> assumption)
theorem w_lst (m : Bool) (es : List CE) : W (cLst m es σ) h Q ↔ W (cEs es σ) h fun xs h1 => xs.length ≤ sizeLine ∧ W (mkL m xs) h1 Q := by
  first
    | exact v_lst ..
    | exact v_lst .. (by assumption)
    | (apply v_lst <;> assumption)
theorem w_idx : W (cIdx a b σ) h Q ↔ W (a σ) h fun x h1 => W (b σ) h1 fun y h2 => W (idxT x y) h2 Q := by
  first
    | exact v_idx ..
    | exact v_idx .. (by assumption)
    | (apply v_idx <;> assumption)
theorem w_slc (m : Bool) (lo hi : Option CE) : W (cSlc m a lo hi σ) h Q ↔ W (a σ) h fun x h1 => W (cO lo σ) h1 fun l h2 => W (cO hi σ) h2 fun u h3 => W (slcT m l u x) h3 Q := by
  first
    | exact v_slc ..
    | exact v_slc .. (by assumption)
    | (apply v_slc <;> assumption)
theorem w_fld (f : Nat) : W (cFld a f σ) h Q ↔ W (a σ) h fun x h1 => W (fldT f x) h1 Q := by
  first
    | exact v_fld ..
    | exact v_fld .. (by assumption)
    | (apply v_fld <;> assumption)
theorem w_call {F : Type} (P : Prog F) (G : F → List T → M T) (f : F) (es : List CE) (ks : List Nat) (kes : List CE) : W (cCall P G f es ks kes σ) h Q ↔ W (cEs es σ) h fun vs h1 => W (cEs kes σ) h1 fun ws h2 => W (bindA P f es.length ks (vs ++ ws)) h2 fun us h3 => W (G f us) h3 Q := by
  first
    | exact v_call ..
    | exact v_call .. (by assumption)
    | (apply v_call <;> assumption)
theorem w_make (mk : Nat → Nat → List Nat → List T → M T) (k : Nat) (es : List CE) (ks : List Nat) (kes : List CE) : W (cMake mk k es ks kes σ) h Q ↔ W (cEs es σ) h fun vs h1 => W (cEs kes σ) h1 fun ws h2 => W (mk k (es.length + 1) ks (vs ++ ws)) h2 Q := by
  first
    | exact v_make ..
    | exact v_make .. (by assumption)
    | (apply v_make <;> assumption)
theorem w_meth {F : Type} (P : Prog F) (G : F → List T → M T) (m : Nat) (es : List CE) (ks : List Nat) (kes : List CE) : W (cMeth P G a m es ks kes σ) h Q ↔ W (a σ) h fun x h1 => W (clsT x) h1 fun k h2 => W (ofO (P.meth k m)) h2 fun f h3 => W (cEs es σ) h3 fun vs h4 => W (cEs kes σ) h4 fun ws h5 => W (bindA P f (es.length + 1) ks (x :: (vs ++ ws))) h5 fun us h6 => W (G f us) h6 Q := by
  first
    | exact v_meth ..
    | exact v_meth .. (by assumption)
    | (apply v_meth <;> assumption)
theorem w_prim (p : Prim) (m : Bool) (es : List CE) : W (cPrim p m es σ) h Q ↔ W (cEs es σ) h fun xs h1 => W (primT p m xs) h1 Q := by
  first
    | exact v_prim ..
    | exact v_prim .. (by assumption)
    | (apply v_prim <;> assumption)
theorem w_isi (t : Ty) : W (cIsi a t σ) h Q ↔ W (a σ) h fun x h1 => W (isiM t x) h1 Q := by
  first
    | exact v_isi ..
    | exact v_isi .. (by assumption)
    | (apply v_isi <;> assumption)
theorem w_bm (p : Bm) (es : List CE) : W (cBm p a es σ) h Q ↔ W (a σ) h fun x h1 => W (bmC p x) h1 fun _ h2 => W (cEs es σ) h2 fun vs h3 => W (bmT p x vs) h3 Q := by
  first
    | exact v_bm ..
    | exact v_bm .. (by assumption)
    | (apply v_bm <;> assumption)
theorem w_lc (m : Bool) (tg : CG) (it : CI) (ifs : List CE) (elt : CE) (own : List Nat) : W (cLc m tg it ifs elt own σ) h Q ↔ W (it σ) h fun r h1 => W (compL r.2 (fun x => bnd (tg x (wipe σ own)) fun σ' => bnd (cIfs ifs σ') fun t =>
      if t then bnd (elt σ') fun y => ret (some y) else ret none) r.1) h1 fun ys h2 => ys.length ≤ sizeLine ∧ W (mkL m ys) h2 Q := by
  first
    | exact v_lc ..
    | exact v_lc .. (by assumption)
    | (apply v_lc <;> assumption)
end
section
variable {Q : List T × M Unit → Sto → Prop} (σ : Env) (a b : CE)
theorem w_rng : W (cRng a b σ) h Q ↔ W (a σ) h fun x h1 => W (b σ) h1 fun y h2 => W (match x, y with
    | .int i, .int j => if -(2 ^ 62) ≤ i ∧ i < 2 ^ 62 ∧ -(2 ^ 62) ≤ j ∧ j < 2 ^ 62 then ret ((List.range (j - i).toNat).map fun (k : Nat) => T.int (i + k), ret ()) else no
    | _, _ => no) h2 Q := by
  first
    | exact v_rng ..
    | exact v_rng .. (by assumption)
    | (apply v_rng <;> assumption)
theorem w_enum (k : Int) : W (cEnum k a σ) h Q ↔ W (a σ) h fun x h1 => W (itemsT x) h1 fun xs h2 => Q (xs.zipIdx.map fun p => .tup [.int (k + (p.2 : Nat)), p.1], stillT xs x) h2 := by
  first
    | exact v_enum ..
    | exact v_enum .. (by assumption)
    | (apply v_enum <;> assumption)
theorem w_zip : W (cZip a b σ) h Q ↔ W (a σ) h fun x h1 => W (b σ) h1 fun y h2 => W (itemsT x) h2 fun xs h3 => W (itemsT y) h3 fun ys h4 => Q ((xs.zip ys).map fun p => .tup [p.1, p.2], bnd (stillT xs x) fun _ => stillT ys y) h4 := by
  first
    | exact v_zip ..
    | exact v_zip .. (by assumption)
    | (apply v_zip <;> assumption)
theorem w_seq : W (cSeq a σ) h Q ↔ W (a σ) h fun x h1 => W (itemsT x) h1 fun xs h2 => Q (xs, stillT xs x) h2 := by
  first
    | exact v_seq ..
    | exact v_seq .. (by assumption)
    | (apply v_seq <;> assumption)
end
section
variable {Q : Env → Sto → Prop} (σ : Env) (v : T)
theorem w_gName {i : Nat} (e : i < σ.length) : W (gName i v σ) h Q ↔ Q (σ.set i (some v)) h := by
  first
    | exact v_gName ..
    | exact v_gName .. (by assumption)
    | (apply v_gName <;> assumption)
theorem w_gs0 : W (cGs [] [] σ) h Q ↔ Q σ h := by
  first
    | exact v_gs0 ..
    | exact v_gs0 .. (by assumption)
    | (apply v_gs0 <;> assumption)
theorem w_gs1 (t : CG) (ts : List CG) (xs : List T) : W (cGs (t :: ts) (v :: xs) σ) h Q ↔ W (t v σ) h fun σ' h1 => W (cGs ts xs σ') h1 Q := by
  first
    | exact v_gs1 ..
    | exact v_gs1 .. (by assumption)
    | (apply v_gs1 <;> assumption)
theorem w_gTup {ts : List CG} {xs : List T} (e : ts.length = xs.length) : W (gTupC ts (.tup xs) σ) h Q ↔ W (cGs ts xs σ) h Q := by
  first
    | exact v_gTup ..
    | exact v_gTup .. (by assumption)
    | (apply v_gTup <;> assumption)
theorem w_gTupL {ts : List CG} {xs : List T} (e : ts.length = xs.length) : W (gTupC ts (.lst xs) σ) h Q ↔ W (cGs ts xs σ) h Q := by
  first
    | exact v_gTupL ..
    | exact v_gTupL .. (by assumption)
    | (apply v_gTupL <;> assumption)
theorem w_gSub (o i : CE) : W (gSubC o i v σ) h Q ↔ W (o σ) h fun x h1 => W (i σ) h1 fun y h2 => W (match x, y with
    | .ref n, .int k => bnd (getO n) fun
      | .lst xs => bnd (ofO (L2.ixN xs.length k)) fun j => bnd (setO n (.lst (xs.set j v))) fun _ => ret σ
      | _ => no
    | _, _ => no) h2 Q := by
  first
    | exact v_gSub ..
    | exact v_gSub .. (by assumption)
    | (apply v_gSub <;> assumption)
theorem w_gFld (o : CE) (f : Nat) : W (gFldC o f v σ) h Q ↔ W (o σ) h fun x h1 => W (match x with
    | .ref n => bnd (getO n) fun
      | .ins c fs vs => if fs.length < 900 then bnd (setO n (.ins c (putV f v fs vs).1 (putV f v fs vs).2)) fun _ => ret σ else no
      | _ => no
    | _ => no) h1 Q := by
  first
    | exact v_gFld ..
    | exact v_gFld .. (by assumption)
    | (apply v_gFld <;> assumption)
end
section
variable {Q : Fl × Env → Sto → Prop} (σ : Env) (e : CE)
theorem w_ss0 : W (sSs [] σ) h Q ↔ Q (.nx, σ) h := by
  first
    | exact v_ss0 ..
    | exact v_ss0 .. (by assumption)
    | (apply v_ss0 <;> assumption)
theorem w_ss1 (s : CS) (r : List CS) : W (sSs (s :: r) σ) h Q ↔ W (s σ) h fun q h1 => match q.1 with
    | .nx => W (sSs r q.2) h1 Q
    | .rt v => Q (.rt v, q.2) h1 := by
  first
    | exact v_ss1 ..
    | exact v_ss1 .. (by assumption)
    | (apply v_ss1 <;> assumption)
theorem w_expr : W (sExpr e σ) h Q ↔ W (e σ) h fun _ h1 => Q (.nx, σ) h1 := by
  first
    | exact v_expr ..
    | exact v_expr .. (by assumption)
    | (apply v_expr <;> assumption)
theorem w_asg (tg : CG) : W (sAsg tg e σ) h Q ↔ W (e σ) h fun v h1 => W (tg v σ) h1 fun σ' h2 => Q (.nx, σ') h2 := by
  first
    | exact v_asg ..
    | exact v_asg .. (by assumption)
    | (apply v_asg <;> assumption)
theorem w_aug (i : Nat) (op : Op) : W (sAug i op e σ) h Q ↔ W (ofO (σ[i]?.bind id)) h fun x h1 => W (e σ) h1 fun y h2 => W (match op, x, y with
      | .add, .int a, .int b => ret (.int (a + b))
      | .sub, .int a, .int b => ret (.int (a - b))
      | _, _, _ => (no : M T)) h2 fun v h3 => Q (.nx, σ.set i (some v)) h3 := by
  first
    | exact v_aug ..
    | exact v_aug .. (by assumption)
    | (apply v_aug <;> assumption)
theorem w_sret : W (sRet e σ) h Q ↔ W (e σ) h fun v h1 => Q (.rt v, σ) h1 := by
  first
    | exact v_sret ..
    | exact v_sret .. (by assumption)
    | (apply v_sret <;> assumption)
theorem w_sif (a b : List CS) : W (sIff e a b σ) h Q ↔ W (e σ) h fun x h1 => W (truT x) h1 fun t h2 => if t then W (sSs a σ) h2 Q else W (sSs b σ) h2 Q := by
  first
    | exact v_sif ..
    | exact v_sif .. (by assumption)
    | (apply v_sif <;> assumption)
theorem w_rai : W (sRai σ) h Q ↔ False := by
  first
    | exact v_rai ..
    | exact v_rai .. (by assumption)
    | (apply v_rai <;> assumption)
theorem w_pass : W (sPass σ) h Q ↔ Q (.nx, σ) h := by
  first
    | exact v_pass ..
    | exact v_pass .. (by assumption)
    | (apply v_pass <;> assumption)
theorem w_for (tg : CG) (it : CI) (b : List CS) : W (sFor tg it b σ) h Q ↔ W (it σ) h fun r h1 => W (forL r.2 (fun x σ => bnd (tg x σ) (sSs b)) r.1 σ) h1 Q := by
  first
    | exact v_for ..
    | exact v_for .. (by assumption)
    | (apply v_for <;> assumption)
end
end
section
variable {F : Type} (S : Sh F)
theorem w_runS {h : Sto} {Q : T → Sto → Prop} {ar nl : Nat} {b : List CS} {as : List T} (e : as.length = ar) : W (runS ar nl b as) h Q ↔ W (sSs b (as.map some ++ List.replicate nl none)) h fun r h1 => Q (match r.1 with
    | .nx => .non
    | .rt v => v) h1 := by
  first
    | exact v_runS ..
    | exact v_runS .. (by assumption)
    | (apply v_runS <;> assumption)
end
end Mt

set_option maxHeartbeats 8000000
/-! Mt33: the jars of the laws. -/
namespace Mt
open PySem
def JarO (o : O) : Prop := ∃ a b c : Int, o = .lst [.int a, .int b, .int c]
def Jars (h : Sto) : Prop := ∀ o ∈ h, JarO o
theorem Jars.nil : Jars [] := fun _ h => nomatch h
theorem Jars.push {h : Sto} {o : O} (j : Jars h) (w : JarO o) : Jars (h ++ [o]) := fun u m => by
  rcases List.mem_append.mp m with m | m
  · exact j u m
  · cases List.mem_singleton.mp m
    exact w
theorem Jars.set {h : Sto} {o : O} (n : Nat) (j : Jars h) (w : JarO o) : Jars (h.set n o) := fun u m => by
  rcases List.mem_or_eq_of_mem_set m with m | m
  · exact j u m
  · rw [m]; exact w
theorem Jars.clo {h : Sto} (j : Jars h) (n : Nat) : h.all (cloO n) = true := List.all_eq_true.mpr fun o m => by
  obtain ⟨a, b, c, rfl⟩ := j o m
  rfl
theorem Jars.fin {h : Sto} (j : Jars h) {i : Int} : fin h.length (.ok (.int i) h) = .ok (.int i) h := by
  show (if (h.take h.length).all (cloO h.length) then R.ok (T.int i) (h.take h.length) else .no) = _
  rw [List.take_length, if_pos (j.clo _)]
theorem Jars.at {h : Sto} (j : Jars h) {n : Nat} (w : n < h.length) : ∃ a b c : Int, h[n]? = some (.lst [.int a, .int b, .int c]) := by
  obtain ⟨a, b, c, e⟩ := j h[n] (List.getElem_mem w)
  exact ⟨a, b, c, by rw [List.getElem?_eq_getElem w, e]⟩
/-- digits, by turns -/
def dipS : List CS := [sAsg (gSubC (cVar 0) (cCon (.int 2))) (cBin .add false (cIdx (cVar 0) (cCon (.int 2))) (cCon (.int 1))),
  sIff (cCmp .gt (cIdx (cVar 0) (cCon (.int 0))) (cCon (.int 0))) [sAsg (gTupC [gSubC (cVar 0) (cCon (.int 0)), gName 3]) (cPrim .divmod false [cIdx (cVar 0) (cCon (.int 0)), cVar 1]), sRet (cVar 3)] [],
  sAsg (gName 2) (cBin .mod false (cPrim .int false [cIdx (cVar 0) (cCon (.int 1))]) (cCon (.int 1000000093))),
  sAsg (gSubC (cVar 0) (cCon (.int 1))) (cBin .add false (cBin .mul false (cVar 2) (cBin .add false (cBin .mod false (cPrim .int false [cVar 2]) (cCon (.int 47017))) (cCon (.int 30011)))) (cBin .mul false (cCon (.int 80021)) (cIdx (cVar 0) (cCon (.int 2))))),
  sRet (cBin .mod false (cPrim .int false [cBin .fdiv false (cBin .mod false (cPrim .int false [cIdx (cVar 0) (cCon (.int 1))]) (cCon (.int 1000000093))) (cCon (.int 32))]) (cVar 1))]
theorem dip_run {h : Sto} {n : Nat} {m d s k : Int} (w : h[n]? = some (.lst [.int d, .int s, .int k])) (h0 : 0 < m) (h1 : m < 2 ^ 256) :
    W (sSs dipS [some (.ref n), some (.int m), none, none]) h fun r h' => ∃ i d' s' k' : Int, r.1 = .rt (.int i) ∧ 0 ≤ i ∧ i < m ∧ h' = h.set n (.lst [.int d', .int s', .int k']) := by
  have hn : n < h.length := (List.getElem?_eq_some_iff.mp w).1
  by_cases hd : 0 < d
  · simp (config := {maxSteps := 3000000}) (disch := first | assumption | with_unfolding_all exact id rfl | with_unfolding_all exact Nat.le_of_ble_eq_true rfl | omega) only [r_add, r_sub, r_mulL, r_mulR, r_mod, r_fdiv, r_divmod, r_pint, r_pintb, r_abs, r_min2, r_max2, r_lent, r_lenl, r_lens, r_lenr, r_tupl, r_tupt, r_negi, r_trub, r_trui, r_lt, r_le, r_gt, r_ge, r_isb, r_isnb, r_idxt, r_idxl, r_idxs, r_idxr, r_atT, r_at0, r_at1, r_at2, r_ix30, r_ix31, r_ix32, r_mkF, r_mkT, r_itt, r_itl, r_its, r_itr, r_stt, r_stl, r_sts, r_isii, r_isib, r_isit, r_isil, r_isis, r_k1, r_k2, r_k3, r_k4, r_k5, r_k6, r_k7, r_k8, r_k9, r_k10, r_k11, r_k12, r_k13, r_k14, r_k15, r_wi0, r_wi1, r_bin0, r_line, r_frzb, r_frzi, r_frzn, r_frzs, r_ret, r_no, ↓r_bnd, r_newO, r_getO, r_getO_set, r_setO, r_setO_set, r_ite, r_nox, ↓w_es0, ↓w_es1, ↓w_cO0, ↓w_cO1, ↓w_ifs0, ↓w_ifs1, ↓w_var, ↓w_con, ↓w_glob, ↓w_bin, ↓w_neg, ↓w_not, ↓w_and, ↓w_or, ↓w_ite, ↓w_cmp, ↓w_cmp2, ↓w_cmp3, ↓w_eqo, ↓w_tup, ↓w_lst, ↓w_idx, ↓w_slc, ↓w_fld, ↓w_call, ↓w_make, ↓w_meth, ↓w_prim, ↓w_isi, ↓w_bm, ↓w_lc, ↓w_rng, ↓w_enum, ↓w_zip, ↓w_seq, ↓w_gName, ↓w_gs0, ↓w_gs1, ↓w_gTup, ↓w_gTupL, ↓w_gSub, ↓w_gFld, ↓w_ss0, ↓w_ss1, ↓w_expr, ↓w_asg, ↓w_aug, ↓w_sret, ↓w_sif, ↓w_rai, ↓w_pass, ↓w_for, ↓w_runS, ↓bnd_ret, ↓bnd_no, ofO_some, Option.bind_some, id, List.getElem?_cons_zero, List.getElem?_cons_succ, List.set_cons_zero, List.set_cons_succ, List.length_cons, List.length_nil, if_true, if_false, Bool.false_eq_true, List.map_cons, List.map_nil, List.cons_append, List.nil_append, List.append_nil, List.replicate_succ, List.replicate_zero, ↓reduceIte, Bool.not_true, Bool.not_false, decide_true, decide_false, Nat.reduceAdd, Nat.reduceLT, Nat.reduceLeDiff, List.length_set, true_and, and_true, Int.cast_ofNat_Int, eq_self, dipS, w, hd]
    exact ⟨_, _, _, _, rfl, Int.emod_nonneg _ (by omega), Int.emod_lt_of_pos _ h0, rfl⟩
  · simp (config := {maxSteps := 3000000}) (disch := first | assumption | with_unfolding_all exact id rfl | with_unfolding_all exact Nat.le_of_ble_eq_true rfl | omega) only [r_add, r_sub, r_mulL, r_mulR, r_mod, r_fdiv, r_divmod, r_pint, r_pintb, r_abs, r_min2, r_max2, r_lent, r_lenl, r_lens, r_lenr, r_tupl, r_tupt, r_negi, r_trub, r_trui, r_lt, r_le, r_gt, r_ge, r_isb, r_isnb, r_idxt, r_idxl, r_idxs, r_idxr, r_atT, r_at0, r_at1, r_at2, r_ix30, r_ix31, r_ix32, r_mkF, r_mkT, r_itt, r_itl, r_its, r_itr, r_stt, r_stl, r_sts, r_isii, r_isib, r_isit, r_isil, r_isis, r_k1, r_k2, r_k3, r_k4, r_k5, r_k6, r_k7, r_k8, r_k9, r_k10, r_k11, r_k12, r_k13, r_k14, r_k15, r_wi0, r_wi1, r_bin0, r_line, r_frzb, r_frzi, r_frzn, r_frzs, r_ret, r_no, ↓r_bnd, r_newO, r_getO, r_getO_set, r_setO, r_setO_set, r_ite, r_nox, ↓w_es0, ↓w_es1, ↓w_cO0, ↓w_cO1, ↓w_ifs0, ↓w_ifs1, ↓w_var, ↓w_con, ↓w_glob, ↓w_bin, ↓w_neg, ↓w_not, ↓w_and, ↓w_or, ↓w_ite, ↓w_cmp, ↓w_cmp2, ↓w_cmp3, ↓w_eqo, ↓w_tup, ↓w_lst, ↓w_idx, ↓w_slc, ↓w_fld, ↓w_call, ↓w_make, ↓w_meth, ↓w_prim, ↓w_isi, ↓w_bm, ↓w_lc, ↓w_rng, ↓w_enum, ↓w_zip, ↓w_seq, ↓w_gName, ↓w_gs0, ↓w_gs1, ↓w_gTup, ↓w_gTupL, ↓w_gSub, ↓w_gFld, ↓w_ss0, ↓w_ss1, ↓w_expr, ↓w_asg, ↓w_aug, ↓w_sret, ↓w_sif, ↓w_rai, ↓w_pass, ↓w_for, ↓w_runS, ↓bnd_ret, ↓bnd_no, ofO_some, Option.bind_some, id, List.getElem?_cons_zero, List.getElem?_cons_succ, List.set_cons_zero, List.set_cons_succ, List.length_cons, List.length_nil, if_true, if_false, Bool.false_eq_true, List.map_cons, List.map_nil, List.cons_append, List.nil_append, List.append_nil, List.replicate_succ, List.replicate_zero, ↓reduceIte, Bool.not_true, Bool.not_false, decide_true, decide_false, Nat.reduceAdd, Nat.reduceLT, Nat.reduceLeDiff, List.length_set, true_and, and_true, Int.cast_ofNat_Int, eq_self, dipS, w, hd]
    exact ⟨_, _, _, _, rfl, Int.emod_nonneg _ (by omega), Int.emod_lt_of_pos _ h0, rfl⟩
/-- a def of such a shape -/
structure Is {F : Type} (S : Sh F) (f : F) (ar nl : Nat) (md : Mode) (b : (F → List T → M T) → (Nat → Nat → List Nat → List T → M T) → List CS) : Prop where
  e1 : (S.P.fn f).arity = ar
  e2 : (S.P.fn f).nloc = nl
  e3 : (S.P.fn f).mode = md
  e4 : ∀ G mk, S.bs G mk f = b G mk
  e5 : S.P.plan f ar [] = none
section
variable {F : Type} {S : Sh F}
theorem Is.bind {f : F} {ar nl : Nat} {md : Mode} {b : (F → List T → M T) → (Nat → Nat → List Nat → List T → M T) → List CS} (I : Is S f ar nl md b) (vs : List T) : bindA S.P f ar [] vs = ret vs :=
  r_bin0 S.P f ar [] vs I.e5 rfl I.e1.symm
/-- a def that dips: the store stays one of jars -/
theorem call_shared {f : F} {ar nl : Nat} {b : (F → List T → M T) → (Nat → Nat → List Nat → List T → M T) → List CS} (I : Is S f ar nl .shared b) {h : Sto} {as : List T} {m : Nat} {Q : T → Sto → Prop}
    (w : W (runS ar nl (b (callS S (m + 1)) (makeS S (m + 1))) as) h fun v h' => ∃ v', frz h.length h' v = some v' ∧ Jars (h'.take h.length) ∧ Q v' (h'.take h.length)) : W (callS S (m + 2) f as) h Q := by
  rw [callS_s, I.e3, I.e1, I.e2, I.e4]
  obtain ⟨v, h', e, v', e1, j, q⟩ := w
  refine ⟨v', h'.take h.length, ?_, q⟩
  show fin h.length (runS ar nl _ as h) = _
  rw [e]
  show (match frz h.length h' v with
    | some v' => if (h'.take h.length).all (cloO h.length) then R.ok v' (h'.take h.length) else .no
    | none => .no) = _
  rw [e1]
  exact if_pos (j.clo _)
theorem dip_call {dip : F} (I : Is S dip 2 2 .shared fun _ _ => dipS) {h : Sto} (j : Jars h) {n : Nat} (hn : n < h.length) {m : Int} (h0 : 0 < m) (h1 : m < 2 ^ 256) {k : Nat} (hk : 2 ≤ k) :
    W (callS S k dip [.ref n, .int m]) h fun v h' => ∃ i : Int, v = .int i ∧ 0 ≤ i ∧ i < m ∧ Jars h' ∧ h'.length = h.length := by
  obtain ⟨k, rfl⟩ : ∃ m, k = m + 2 := ⟨k - 2, by omega⟩
  obtain ⟨a, b, c, w⟩ := j.at hn
  refine call_shared I ((w_runS rfl).mpr ((dip_run w h0 h1).mono ?_))
  intro r h' ⟨i, d', s', k', e1, i0, i1, e⟩
  have j' := j.set n (o := .lst [.int d', .int s', .int k']) ⟨d', s', k', rfl⟩
  have l' : (h.set n (.lst [.int d', .int s', .int k'])).length = h.length := List.length_set
  rw [e1, e]
  have e6 : (h.set n (.lst [.int d', .int s', .int k'])).take h.length = h.set n (.lst [.int d', .int s', .int k']) := by
    rw [← l', List.take_length]
  rw [e6]
  exact ⟨.int i, rfl, j', i, rfl, i0, i1, j', l'⟩
/-- a new jar -/
def jarS : List CS := [sAsg (gName 1) (cBin .mul false (cPrim .abs false [cVar 0]) (cPrim .int false [cOr (cCmp .lt (cVar 0) (cCon (.int 0))) (cCmp .ge (cVar 0) (cBin .pow false (cCon (.int 10)) (cCon (.int 18))))])),
  sRet (cLst true [cVar 1, cBin .add false (cBin .mul false (cBin .mod false (cVar 0) (cCon (.int 1000000093))) (cCon (.int 6011))) (cCon (.int 90019)), cCon (.int 0)])]
theorem r_pow18 (m : Bool) : opT m .pow (.int 10) (.int 18) = ret (.int 1000000000000000000) := rfl
theorem r_b01 (b : Bool) : -18446744073709551616 < (if b = true then 1 else 0 : Int) ∧ (if b = true then 1 else 0 : Int) < 18446744073709551616 := by cases b <;> decide
theorem jar_call {jar : F} (I : Is S jar 1 1 .keep fun _ _ => jarS) {h : Sto} (j : Jars h) (c : Int) {k : Nat} (hk : 2 ≤ k) :
    W (callS S k jar [.int c]) h fun v h' => v = .ref h.length ∧ Jars h' ∧ h'.length = h.length + 1 := by
  obtain ⟨k, rfl⟩ : ∃ m, k = m + 2 := ⟨k - 2, by omega⟩
  rw [callS_s, I.e3, I.e1, I.e2, I.e4]
  show W (runS 1 1 jarS [.int c]) h _
  have e3 := r_line.2.2.2.1
  by_cases g : c < 0
  · simp (config := {maxSteps := 3000000}) (disch := first | assumption | with_unfolding_all exact id rfl | with_unfolding_all exact Nat.le_of_ble_eq_true rfl | omega) only [r_add, r_sub, r_mulL, r_mulR, r_mod, r_fdiv, r_divmod, r_pint, r_pintb, r_abs, r_min2, r_max2, r_lent, r_lenl, r_lens, r_lenr, r_tupl, r_tupt, r_negi, r_trub, r_trui, r_lt, r_le, r_gt, r_ge, r_isb, r_isnb, r_idxt, r_idxl, r_idxs, r_idxr, r_atT, r_at0, r_at1, r_at2, r_ix30, r_ix31, r_ix32, r_mkF, r_mkT, r_itt, r_itl, r_its, r_itr, r_stt, r_stl, r_sts, r_isii, r_isib, r_isit, r_isil, r_isis, r_k1, r_k2, r_k3, r_k4, r_k5, r_k6, r_k7, r_k8, r_k9, r_k10, r_k11, r_k12, r_k13, r_k14, r_k15, r_wi0, r_wi1, r_bin0, r_line, r_frzb, r_frzi, r_frzn, r_frzs, r_ret, r_no, ↓r_bnd, r_newO, r_getO, r_getO_set, r_setO, r_setO_set, r_ite, r_nox, ↓w_es0, ↓w_es1, ↓w_cO0, ↓w_cO1, ↓w_ifs0, ↓w_ifs1, ↓w_var, ↓w_con, ↓w_glob, ↓w_bin, ↓w_neg, ↓w_not, ↓w_and, ↓w_or, ↓w_ite, ↓w_cmp, ↓w_cmp2, ↓w_cmp3, ↓w_eqo, ↓w_tup, ↓w_lst, ↓w_idx, ↓w_slc, ↓w_fld, ↓w_call, ↓w_make, ↓w_meth, ↓w_prim, ↓w_isi, ↓w_bm, ↓w_lc, ↓w_rng, ↓w_enum, ↓w_zip, ↓w_seq, ↓w_gName, ↓w_gs0, ↓w_gs1, ↓w_gTup, ↓w_gTupL, ↓w_gSub, ↓w_gFld, ↓w_ss0, ↓w_ss1, ↓w_expr, ↓w_asg, ↓w_aug, ↓w_sret, ↓w_sif, ↓w_rai, ↓w_pass, ↓w_for, ↓w_runS, ↓bnd_ret, ↓bnd_no, ofO_some, Option.bind_some, id, List.getElem?_cons_zero, List.getElem?_cons_succ, List.set_cons_zero, List.set_cons_succ, List.length_cons, List.length_nil, if_true, if_false, Bool.false_eq_true, List.map_cons, List.map_nil, List.cons_append, List.nil_append, List.append_nil, List.replicate_succ, List.replicate_zero, ↓reduceIte, Bool.not_true, Bool.not_false, decide_true, decide_false, Nat.reduceAdd, Nat.reduceLT, Nat.reduceLeDiff, List.length_set, true_and, and_true, Int.cast_ofNat_Int, eq_self, jarS, r_pow18, g]
    exact ⟨j.push ⟨_, _, _, rfl⟩, List.length_append⟩
  · simp (config := {maxSteps := 3000000}) (disch := first | assumption | with_unfolding_all exact id rfl | with_unfolding_all exact Nat.le_of_ble_eq_true rfl | omega) only [r_add, r_sub, r_mulL, r_mulR, r_mod, r_fdiv, r_divmod, r_pint, r_pintb, r_abs, r_min2, r_max2, r_lent, r_lenl, r_lens, r_lenr, r_tupl, r_tupt, r_negi, r_trub, r_trui, r_lt, r_le, r_gt, r_ge, r_isb, r_isnb, r_idxt, r_idxl, r_idxs, r_idxr, r_atT, r_at0, r_at1, r_at2, r_ix30, r_ix31, r_ix32, r_mkF, r_mkT, r_itt, r_itl, r_its, r_itr, r_stt, r_stl, r_sts, r_isii, r_isib, r_isit, r_isil, r_isis, r_k1, r_k2, r_k3, r_k4, r_k5, r_k6, r_k7, r_k8, r_k9, r_k10, r_k11, r_k12, r_k13, r_k14, r_k15, r_wi0, r_wi1, r_bin0, r_line, r_frzb, r_frzi, r_frzn, r_frzs, r_ret, r_no, ↓r_bnd, r_newO, r_getO, r_getO_set, r_setO, r_setO_set, r_ite, r_nox, ↓w_es0, ↓w_es1, ↓w_cO0, ↓w_cO1, ↓w_ifs0, ↓w_ifs1, ↓w_var, ↓w_con, ↓w_glob, ↓w_bin, ↓w_neg, ↓w_not, ↓w_and, ↓w_or, ↓w_ite, ↓w_cmp, ↓w_cmp2, ↓w_cmp3, ↓w_eqo, ↓w_tup, ↓w_lst, ↓w_idx, ↓w_slc, ↓w_fld, ↓w_call, ↓w_make, ↓w_meth, ↓w_prim, ↓w_isi, ↓w_bm, ↓w_lc, ↓w_rng, ↓w_enum, ↓w_zip, ↓w_seq, ↓w_gName, ↓w_gs0, ↓w_gs1, ↓w_gTup, ↓w_gTupL, ↓w_gSub, ↓w_gFld, ↓w_ss0, ↓w_ss1, ↓w_expr, ↓w_asg, ↓w_aug, ↓w_sret, ↓w_sif, ↓w_rai, ↓w_pass, ↓w_for, ↓w_runS, ↓bnd_ret, ↓bnd_no, ofO_some, Option.bind_some, id, List.getElem?_cons_zero, List.getElem?_cons_succ, List.set_cons_zero, List.set_cons_succ, List.length_cons, List.length_nil, if_true, if_false, Bool.false_eq_true, List.map_cons, List.map_nil, List.cons_append, List.nil_append, List.append_nil, List.replicate_succ, List.replicate_zero, ↓reduceIte, Bool.not_true, Bool.not_false, decide_true, decide_false, Nat.reduceAdd, Nat.reduceLT, Nat.reduceLeDiff, List.length_set, true_and, and_true, Int.cast_ofNat_Int, eq_self, jarS, r_pow18, g, r_b01]
    exact ⟨j.push ⟨_, _, _, rfl⟩, List.length_append⟩
end
end Mt

set_option maxHeartbeats 8000000
/-! Mt34: loops; cells and sizes of the laws. -/
namespace Mt
open PySem
/-- a loop, by what is left -/
theorem W_for {f : T → Env → M (Fl × Env)} (I : List T → Env → Sto → Prop) (R : T → Env → Sto → Prop)
    (st : ∀ x xs σ h, I (x :: xs) σ h → W (f x σ) h fun r h' => match r.1 with
      | .nx => I xs r.2 h'
      | .rt v => R v r.2 h') : ∀ xs σ h, I xs σ h → W (forL (ret ()) f xs σ) h fun r h' => match r.1 with
      | .nx => I [] r.2 h'
      | .rt v => R v r.2 h'
  | [], σ, h, i => (r_ret _).mpr i
  | x :: xs, σ, h, i => by
    show W (bnd (ret ()) fun _ => bnd (f x σ) _) h _
    rw [bnd_ret, r_bnd]
    refine (st x xs σ h i).mono ?_
    rintro ⟨fl, σ'⟩ h' q
    cases fl with
    | nx => exact W_for I R st xs σ' h' q
    | rt v => exact (r_ret _).mpr q
theorem compL_ret {f : T → M (Option T)} {φ : T → Option T} : ∀ {xs : List T}, (∀ x ∈ xs, f x = ret (φ x)) → compL (ret ()) f xs = ret (xs.filterMap φ)
  | [], _ => rfl
  | x :: xs, hf => by
    show bnd (ret ()) (fun _ => bnd (f x) _) = _
    rw [bnd_ret, hf x List.mem_cons_self, bnd_ret, compL_ret fun y m => hf y (List.mem_cons_of_mem _ m)]
    show (match φ x with
      | some y => bnd (ret (xs.filterMap φ)) fun ys => ret (y :: ys)
      | none => ret (xs.filterMap φ)) = _
    rw [List.filterMap_cons]
    cases φ x <;> rfl
/-- a comprehension, by an invariant -/
theorem W_comp {f : T → M (Option T)} (J : Sto → Prop) (P : T → Prop) : ∀ {xs : List T} {h : Sto}, (∀ x ∈ xs, ∀ h, J h → W (f x) h fun o h' => J h' ∧ ∃ y, o = some y ∧ P y) → J h →
    W (compL (ret ()) f xs) h fun ys h' => J h' ∧ ys.length = xs.length ∧ ∀ y ∈ ys, P y
  | [], h, _, j => (by
    show W (bnd (ret ()) fun _ => ret []) h _
    rw [bnd_ret, r_ret]
    exact ⟨j, rfl, fun _ m => nomatch m⟩)
  | x :: xs, h, hf, j => by
    show W (bnd (ret ()) (fun _ => bnd (f x) _)) h _
    rw [bnd_ret, r_bnd]
    refine (hf x List.mem_cons_self h j).mono ?_
    rintro o h' ⟨j', y, rfl, py⟩
    show W (bnd _ _) h' _
    rw [r_bnd]
    refine (W_comp J P (fun z m => hf z (List.mem_cons_of_mem _ m)) j').mono ?_
    rintro ys h2 ⟨j2, l, py2⟩
    rw [r_ret]
    refine ⟨j2, congrArg (· + 1) l, fun z m => ?_⟩
    rcases List.mem_cons.mp m with rfl | m
    · exact py
    · exact py2 z m
theorem take_len {h h' : Sto} (l : h'.length = h.length) : h'.take h.length = h' := by rw [← l, List.take_length]
theorem W_ret {α : Type} {m : M α} {a : α} {h : Sto} {Q : α → Sto → Prop} (e : m = ret a) (q : Q a h) : W m h Q := by
  rw [e]; exact (r_ret _).mpr q
section
variable {F : Type} {S : Sh F}
theorem call_pure {f : F} {ar nl : Nat} {b : (F → List T → M T) → (Nat → Nat → List Nat → List T → M T) → List CS} (I : Is S f ar nl .pure b) {as : List T} {m : Nat} {v' : T}
    (e : (frzWs (r0 0) as).isSome = true) (w : W (runS ar nl (b (callS S (m + 1)) (makeS S (m + 1))) as) [] fun v h' => frz 0 h' v = some v') : callS S (m + 2) f as = ret v' := by
  refine callS_pure S I.e3 e ?_
  rw [I.e1, I.e2, I.e4]
  exact w
/-- the same, of some value -/
theorem call_pureE {f : F} {ar nl : Nat} {b : (F → List T → M T) → (Nat → Nat → List Nat → List T → M T) → List CS} (I : Is S f ar nl .pure b) {as : List T} {m : Nat} {P : T → Prop}
    (e : (frzWs (r0 0) as).isSome = true) (w : W (runS ar nl (b (callS S (m + 1)) (makeS S (m + 1))) as) [] fun v h' => ∃ v', frz 0 h' v = some v' ∧ P v') : ∃ v', callS S (m + 2) f as = ret v' ∧ P v' := by
  obtain ⟨v, h', e1, v', e2, p⟩ := w
  exact ⟨v', call_pure I e ⟨v, h', e1, e2⟩, p⟩
def cellS : List CS := [sIff (cCmp .lt (cVar 1) (cPrim .len false [cVar 0])) [sRet (cIdx (cVar 0) (cVar 1))] [],
  sAsg (gName 2) (cBin .mod false (cBin .mul false (cCon (.int 60029)) (cBin .add false (cBin .add false (cBin .mul false (cVar 1) (cVar 1)) (cBin .mul false (cCon (.int 5)) (cVar 1))) (cCon (.int 17)))) (cCon (.int 1000000093))),
  sFor (gName 3) (cSeq (cSlc false (cVar 0) none (some (cCon (.int 4))))) [sAsg (gName 2) (cBin .mod false (cBin .add false (cBin .mul false (cVar 2) (cCon (.int 50023))) (cVar 3)) (cCon (.int 1000000093)))],
  sRet (cVar 2)]
theorem r_slcs (m : Bool) (lo hi : Option Int) (ns : List Int) : slcT m lo hi (.scr ns) = mkL m ((cut ns lo hi).map .int) := rfl
theorem cell_call {cell : F} (I : Is S cell 2 2 .pure fun _ _ => cellS) (ns : List Int) {i : Int} (h0 : 0 ≤ i) (h1 : i < 1000) {k : Nat} (hk : 2 ≤ k) :
    ∃ c : Int, callS S k cell [.scr ns, .int i] = ret (.int c) := by
  obtain ⟨k, rfl⟩ : ∃ m, k = m + 2 := ⟨k - 2, by omega⟩
  have : ∃ v', callS S (k + 2) cell [.scr ns, .int i] = ret v' ∧ ∃ c : Int, v' = .int c := by
    refine call_pureE I rfl ?_
    by_cases g : i < ns.length
    · obtain ⟨j, rfl⟩ : ∃ j : Nat, i = j := ⟨i.toNat, by omega⟩
      have e : L2.atI ns (j : Int) = some (ns[j]'(by omega)) := L2.atI_nat (List.getElem?_eq_getElem (by omega))
      simp (config := {maxSteps := 3000000}) (disch := first | assumption | with_unfolding_all exact id rfl | with_unfolding_all exact Nat.le_of_ble_eq_true rfl | omega) only [r_add, r_sub, r_mulL, r_mulR, r_mod, r_fdiv, r_divmod, r_pint, r_pintb, r_abs, r_min2, r_max2, r_lent, r_lenl, r_lens, r_lenr, r_tupl, r_tupt, r_negi, r_trub, r_trui, r_lt, r_le, r_gt, r_ge, r_isb, r_isnb, r_idxt, r_idxl, r_idxs, r_idxr, r_atT, r_at0, r_at1, r_at2, r_ix30, r_ix31, r_ix32, r_mkF, r_mkT, r_itt, r_itl, r_its, r_itr, r_stt, r_stl, r_sts, r_isii, r_isib, r_isit, r_isil, r_isis, r_k1, r_k2, r_k3, r_k4, r_k5, r_k6, r_k7, r_k8, r_k9, r_k10, r_k11, r_k12, r_k13, r_k14, r_k15, r_wi0, r_wi1, r_bin0, r_line, r_frzb, r_frzi, r_frzn, r_frzs, r_ret, r_no, ↓r_bnd, r_newO, r_getO, r_getO_set, r_setO, r_setO_set, r_ite, r_nox, ↓w_es0, ↓w_es1, ↓w_cO0, ↓w_cO1, ↓w_ifs0, ↓w_ifs1, ↓w_var, ↓w_con, ↓w_glob, ↓w_bin, ↓w_neg, ↓w_not, ↓w_and, ↓w_or, ↓w_ite, ↓w_cmp, ↓w_cmp2, ↓w_cmp3, ↓w_eqo, ↓w_tup, ↓w_lst, ↓w_idx, ↓w_slc, ↓w_fld, ↓w_call, ↓w_make, ↓w_meth, ↓w_prim, ↓w_isi, ↓w_bm, ↓w_lc, ↓w_rng, ↓w_enum, ↓w_zip, ↓w_seq, ↓w_gName, ↓w_gs0, ↓w_gs1, ↓w_gTup, ↓w_gTupL, ↓w_gSub, ↓w_gFld, ↓w_ss0, ↓w_ss1, ↓w_expr, ↓w_asg, ↓w_aug, ↓w_sret, ↓w_sif, ↓w_rai, ↓w_pass, ↓w_for, ↓w_runS, ↓bnd_ret, ↓bnd_no, ofO_some, Option.bind_some, id, List.getElem?_cons_zero, List.getElem?_cons_succ, List.set_cons_zero, List.set_cons_succ, List.length_cons, List.length_nil, if_true, if_false, Bool.false_eq_true, List.map_cons, List.map_nil, List.cons_append, List.nil_append, List.append_nil, List.replicate_succ, List.replicate_zero, ↓reduceIte, Bool.not_true, Bool.not_false, decide_true, decide_false, Nat.reduceAdd, Nat.reduceLT, Nat.reduceLeDiff, List.length_set, true_and, and_true, Int.cast_ofNat_Int, eq_self, cellS, g, e]
      exact ⟨_, rfl, _, rfl⟩
    · simp (config := {maxSteps := 3000000}) (disch := first | assumption | with_unfolding_all exact id rfl | with_unfolding_all exact Nat.le_of_ble_eq_true rfl | omega) only [r_add, r_sub, r_mulL, r_mulR, r_mod, r_fdiv, r_divmod, r_pint, r_pintb, r_abs, r_min2, r_max2, r_lent, r_lenl, r_lens, r_lenr, r_tupl, r_tupt, r_negi, r_trub, r_trui, r_lt, r_le, r_gt, r_ge, r_isb, r_isnb, r_idxt, r_idxl, r_idxs, r_idxr, r_atT, r_at0, r_at1, r_at2, r_ix30, r_ix31, r_ix32, r_mkF, r_mkT, r_itt, r_itl, r_its, r_itr, r_stt, r_stl, r_sts, r_isii, r_isib, r_isit, r_isil, r_isis, r_k1, r_k2, r_k3, r_k4, r_k5, r_k6, r_k7, r_k8, r_k9, r_k10, r_k11, r_k12, r_k13, r_k14, r_k15, r_wi0, r_wi1, r_bin0, r_line, r_frzb, r_frzi, r_frzn, r_frzs, r_ret, r_no, ↓r_bnd, r_newO, r_getO, r_getO_set, r_setO, r_setO_set, r_ite, r_nox, ↓w_es0, ↓w_es1, ↓w_cO0, ↓w_cO1, ↓w_ifs0, ↓w_ifs1, ↓w_var, ↓w_con, ↓w_glob, ↓w_bin, ↓w_neg, ↓w_not, ↓w_and, ↓w_or, ↓w_ite, ↓w_cmp, ↓w_cmp2, ↓w_cmp3, ↓w_eqo, ↓w_tup, ↓w_lst, ↓w_idx, ↓w_slc, ↓w_fld, ↓w_call, ↓w_make, ↓w_meth, ↓w_prim, ↓w_isi, ↓w_bm, ↓w_lc, ↓w_rng, ↓w_enum, ↓w_zip, ↓w_seq, ↓w_gName, ↓w_gs0, ↓w_gs1, ↓w_gTup, ↓w_gTupL, ↓w_gSub, ↓w_gFld, ↓w_ss0, ↓w_ss1, ↓w_expr, ↓w_asg, ↓w_aug, ↓w_sret, ↓w_sif, ↓w_rai, ↓w_pass, ↓w_for, ↓w_runS, ↓bnd_ret, ↓bnd_no, ofO_some, Option.bind_some, id, List.getElem?_cons_zero, List.getElem?_cons_succ, List.set_cons_zero, List.set_cons_succ, List.length_cons, List.length_nil, if_true, if_false, Bool.false_eq_true, List.map_cons, List.map_nil, List.cons_append, List.nil_append, List.append_nil, List.replicate_succ, List.replicate_zero, ↓reduceIte, Bool.not_true, Bool.not_false, decide_true, decide_false, Nat.reduceAdd, Nat.reduceLT, Nat.reduceLeDiff, List.length_set, true_and, and_true, Int.cast_ofNat_Int, eq_self, cellS, g, r_slcs]
      refine (W_for (fun xs σ _ => (∀ x ∈ xs, ∃ i : Int, x = .int i) ∧ ∃ (x y : Option T) (m : Int) (z : Option T), σ = [x, y, some (.int m), z]) (fun _ _ _ => False) ?_ _ _ _ ?_).mono ?_
      · rintro x xs σ h ⟨ai, x1, y, m, z, rfl⟩
        obtain ⟨i, rfl⟩ := ai x List.mem_cons_self
        simp (config := {maxSteps := 3000000}) (disch := first | assumption | with_unfolding_all exact id rfl | with_unfolding_all exact Nat.le_of_ble_eq_true rfl | omega) only [r_add, r_sub, r_mulL, r_mulR, r_mod, r_fdiv, r_divmod, r_pint, r_pintb, r_abs, r_min2, r_max2, r_lent, r_lenl, r_lens, r_lenr, r_tupl, r_tupt, r_negi, r_trub, r_trui, r_lt, r_le, r_gt, r_ge, r_isb, r_isnb, r_idxt, r_idxl, r_idxs, r_idxr, r_atT, r_at0, r_at1, r_at2, r_ix30, r_ix31, r_ix32, r_mkF, r_mkT, r_itt, r_itl, r_its, r_itr, r_stt, r_stl, r_sts, r_isii, r_isib, r_isit, r_isil, r_isis, r_k1, r_k2, r_k3, r_k4, r_k5, r_k6, r_k7, r_k8, r_k9, r_k10, r_k11, r_k12, r_k13, r_k14, r_k15, r_wi0, r_wi1, r_bin0, r_line, r_frzb, r_frzi, r_frzn, r_frzs, r_ret, r_no, ↓r_bnd, r_newO, r_getO, r_getO_set, r_setO, r_setO_set, r_ite, r_nox, ↓w_es0, ↓w_es1, ↓w_cO0, ↓w_cO1, ↓w_ifs0, ↓w_ifs1, ↓w_var, ↓w_con, ↓w_glob, ↓w_bin, ↓w_neg, ↓w_not, ↓w_and, ↓w_or, ↓w_ite, ↓w_cmp, ↓w_cmp2, ↓w_cmp3, ↓w_eqo, ↓w_tup, ↓w_lst, ↓w_idx, ↓w_slc, ↓w_fld, ↓w_call, ↓w_make, ↓w_meth, ↓w_prim, ↓w_isi, ↓w_bm, ↓w_lc, ↓w_rng, ↓w_enum, ↓w_zip, ↓w_seq, ↓w_gName, ↓w_gs0, ↓w_gs1, ↓w_gTup, ↓w_gTupL, ↓w_gSub, ↓w_gFld, ↓w_ss0, ↓w_ss1, ↓w_expr, ↓w_asg, ↓w_aug, ↓w_sret, ↓w_sif, ↓w_rai, ↓w_pass, ↓w_for, ↓w_runS, ↓bnd_ret, ↓bnd_no, ofO_some, Option.bind_some, id, List.getElem?_cons_zero, List.getElem?_cons_succ, List.set_cons_zero, List.set_cons_succ, List.length_cons, List.length_nil, if_true, if_false, Bool.false_eq_true, List.map_cons, List.map_nil, List.cons_append, List.nil_append, List.append_nil, List.replicate_succ, List.replicate_zero, ↓reduceIte, Bool.not_true, Bool.not_false, decide_true, decide_false, Nat.reduceAdd, Nat.reduceLT, Nat.reduceLeDiff, List.length_set, true_and, and_true, Int.cast_ofNat_Int, eq_self]
        exact ⟨fun x m => ai x (List.mem_cons_of_mem _ m), _, _, _, _, rfl⟩
      · exact ⟨fun x m => by obtain ⟨i, _, rfl⟩ := List.mem_map.mp m; exact ⟨i, rfl⟩, _, _, _, _, rfl⟩
      · rintro ⟨fl, σ⟩ h' q
        cases fl with
        | rt v => exact q.elim
        | nx =>
          obtain ⟨_, x, y, m, z, rfl⟩ := q
          simp (config := {maxSteps := 3000000}) (disch := first | assumption | with_unfolding_all exact id rfl | with_unfolding_all exact Nat.le_of_ble_eq_true rfl | omega) only [r_add, r_sub, r_mulL, r_mulR, r_mod, r_fdiv, r_divmod, r_pint, r_pintb, r_abs, r_min2, r_max2, r_lent, r_lenl, r_lens, r_lenr, r_tupl, r_tupt, r_negi, r_trub, r_trui, r_lt, r_le, r_gt, r_ge, r_isb, r_isnb, r_idxt, r_idxl, r_idxs, r_idxr, r_atT, r_at0, r_at1, r_at2, r_ix30, r_ix31, r_ix32, r_mkF, r_mkT, r_itt, r_itl, r_its, r_itr, r_stt, r_stl, r_sts, r_isii, r_isib, r_isit, r_isil, r_isis, r_k1, r_k2, r_k3, r_k4, r_k5, r_k6, r_k7, r_k8, r_k9, r_k10, r_k11, r_k12, r_k13, r_k14, r_k15, r_wi0, r_wi1, r_bin0, r_line, r_frzb, r_frzi, r_frzn, r_frzs, r_ret, r_no, ↓r_bnd, r_newO, r_getO, r_getO_set, r_setO, r_setO_set, r_ite, r_nox, ↓w_es0, ↓w_es1, ↓w_cO0, ↓w_cO1, ↓w_ifs0, ↓w_ifs1, ↓w_var, ↓w_con, ↓w_glob, ↓w_bin, ↓w_neg, ↓w_not, ↓w_and, ↓w_or, ↓w_ite, ↓w_cmp, ↓w_cmp2, ↓w_cmp3, ↓w_eqo, ↓w_tup, ↓w_lst, ↓w_idx, ↓w_slc, ↓w_fld, ↓w_call, ↓w_make, ↓w_meth, ↓w_prim, ↓w_isi, ↓w_bm, ↓w_lc, ↓w_rng, ↓w_enum, ↓w_zip, ↓w_seq, ↓w_gName, ↓w_gs0, ↓w_gs1, ↓w_gTup, ↓w_gTupL, ↓w_gSub, ↓w_gFld, ↓w_ss0, ↓w_ss1, ↓w_expr, ↓w_asg, ↓w_aug, ↓w_sret, ↓w_sif, ↓w_rai, ↓w_pass, ↓w_for, ↓w_runS, ↓bnd_ret, ↓bnd_no, ofO_some, Option.bind_some, id, List.getElem?_cons_zero, List.getElem?_cons_succ, List.set_cons_zero, List.set_cons_succ, List.length_cons, List.length_nil, if_true, if_false, Bool.false_eq_true, List.map_cons, List.map_nil, List.cons_append, List.nil_append, List.append_nil, List.replicate_succ, List.replicate_zero, ↓reduceIte, Bool.not_true, Bool.not_false, decide_true, decide_false, Nat.reduceAdd, Nat.reduceLT, Nat.reduceLeDiff, List.length_set, true_and, and_true, Int.cast_ofNat_Int, eq_self]
          exact ⟨_, rfl, _, rfl⟩
  obtain ⟨v, e, c, rfl⟩ := this
  exact ⟨c, e⟩
def sizeS (P : Prog F) (dip : F) (G : F → List T → M T) : List CS := [sRet (cIdx (cLst false [cBin .add false (cCon (.int 2)) (cCall P G dip [cVar 0, cCon (.int 4)] [] []), cBin .add false (cCon (.int 1)) (cCall P G dip [cVar 0, cVar 1] [] [])]) (cCall P G dip [cVar 0, cCon (.int 2)] [] []))]
theorem size_call {size dip : F} (D : Is S dip 2 2 .shared fun _ _ => dipS) (I : Is S size 2 0 .shared fun G _ => sizeS S.P dip G) {h : Sto} (j : Jars h) {n : Nat} (hn : n < h.length) {m : Int} (h0 : 5 ≤ m) (h1 : m < 2 ^ 256) {k : Nat} (hk : 3 ≤ k) :
    W (callS S k size [.ref n, .int m]) h fun v h' => ∃ i : Int, v = .int i ∧ 1 ≤ i ∧ i ≤ m ∧ Jars h' ∧ h'.length = h.length := by
  obtain ⟨k, rfl⟩ : ∃ m, k = m + 2 := ⟨k - 2, by omega⟩
  refine call_shared I ?_
  simp (config := {maxSteps := 3000000}) (disch := first | assumption | with_unfolding_all exact id rfl | with_unfolding_all exact Nat.le_of_ble_eq_true rfl | omega) only [r_add, r_sub, r_mulL, r_mulR, r_mod, r_fdiv, r_divmod, r_pint, r_pintb, r_abs, r_min2, r_max2, r_lent, r_lenl, r_lens, r_lenr, r_tupl, r_tupt, r_negi, r_trub, r_trui, r_lt, r_le, r_gt, r_ge, r_isb, r_isnb, r_idxt, r_idxl, r_idxs, r_idxr, r_atT, r_at0, r_at1, r_at2, r_ix30, r_ix31, r_ix32, r_mkF, r_mkT, r_itt, r_itl, r_its, r_itr, r_stt, r_stl, r_sts, r_isii, r_isib, r_isit, r_isil, r_isis, r_k1, r_k2, r_k3, r_k4, r_k5, r_k6, r_k7, r_k8, r_k9, r_k10, r_k11, r_k12, r_k13, r_k14, r_k15, r_wi0, r_wi1, r_bin0, r_line, r_frzb, r_frzi, r_frzn, r_frzs, r_ret, r_no, ↓r_bnd, r_newO, r_getO, r_getO_set, r_setO, r_setO_set, r_ite, r_nox, ↓w_es0, ↓w_es1, ↓w_cO0, ↓w_cO1, ↓w_ifs0, ↓w_ifs1, ↓w_var, ↓w_con, ↓w_glob, ↓w_bin, ↓w_neg, ↓w_not, ↓w_and, ↓w_or, ↓w_ite, ↓w_cmp, ↓w_cmp2, ↓w_cmp3, ↓w_eqo, ↓w_tup, ↓w_lst, ↓w_idx, ↓w_slc, ↓w_fld, ↓w_call, ↓w_make, ↓w_meth, ↓w_prim, ↓w_isi, ↓w_bm, ↓w_lc, ↓w_rng, ↓w_enum, ↓w_zip, ↓w_seq, ↓w_gName, ↓w_gs0, ↓w_gs1, ↓w_gTup, ↓w_gTupL, ↓w_gSub, ↓w_gFld, ↓w_ss0, ↓w_ss1, ↓w_expr, ↓w_asg, ↓w_aug, ↓w_sret, ↓w_sif, ↓w_rai, ↓w_pass, ↓w_for, ↓w_runS, ↓bnd_ret, ↓bnd_no, ofO_some, Option.bind_some, id, List.getElem?_cons_zero, List.getElem?_cons_succ, List.set_cons_zero, List.set_cons_succ, List.length_cons, List.length_nil, if_true, if_false, Bool.false_eq_true, List.map_cons, List.map_nil, List.cons_append, List.nil_append, List.append_nil, List.replicate_succ, List.replicate_zero, ↓reduceIte, Bool.not_true, Bool.not_false, decide_true, decide_false, Nat.reduceAdd, Nat.reduceLT, Nat.reduceLeDiff, List.length_set, true_and, and_true, Int.cast_ofNat_Int, eq_self, sizeS, D.bind]
  refine (dip_call D j hn (by decide) (by decide) (by omega)).mono ?_
  rintro _ h1' ⟨i1, rfl, a1, b1, j1, l1⟩
  simp (config := {maxSteps := 3000000}) (disch := first | assumption | with_unfolding_all exact id rfl | with_unfolding_all exact Nat.le_of_ble_eq_true rfl | omega) only [r_add, r_sub, r_mulL, r_mulR, r_mod, r_fdiv, r_divmod, r_pint, r_pintb, r_abs, r_min2, r_max2, r_lent, r_lenl, r_lens, r_lenr, r_tupl, r_tupt, r_negi, r_trub, r_trui, r_lt, r_le, r_gt, r_ge, r_isb, r_isnb, r_idxt, r_idxl, r_idxs, r_idxr, r_atT, r_at0, r_at1, r_at2, r_ix30, r_ix31, r_ix32, r_mkF, r_mkT, r_itt, r_itl, r_its, r_itr, r_stt, r_stl, r_sts, r_isii, r_isib, r_isit, r_isil, r_isis, r_k1, r_k2, r_k3, r_k4, r_k5, r_k6, r_k7, r_k8, r_k9, r_k10, r_k11, r_k12, r_k13, r_k14, r_k15, r_wi0, r_wi1, r_bin0, r_line, r_frzb, r_frzi, r_frzn, r_frzs, r_ret, r_no, ↓r_bnd, r_newO, r_getO, r_getO_set, r_setO, r_setO_set, r_ite, r_nox, ↓w_es0, ↓w_es1, ↓w_cO0, ↓w_cO1, ↓w_ifs0, ↓w_ifs1, ↓w_var, ↓w_con, ↓w_glob, ↓w_bin, ↓w_neg, ↓w_not, ↓w_and, ↓w_or, ↓w_ite, ↓w_cmp, ↓w_cmp2, ↓w_cmp3, ↓w_eqo, ↓w_tup, ↓w_lst, ↓w_idx, ↓w_slc, ↓w_fld, ↓w_call, ↓w_make, ↓w_meth, ↓w_prim, ↓w_isi, ↓w_bm, ↓w_lc, ↓w_rng, ↓w_enum, ↓w_zip, ↓w_seq, ↓w_gName, ↓w_gs0, ↓w_gs1, ↓w_gTup, ↓w_gTupL, ↓w_gSub, ↓w_gFld, ↓w_ss0, ↓w_ss1, ↓w_expr, ↓w_asg, ↓w_aug, ↓w_sret, ↓w_sif, ↓w_rai, ↓w_pass, ↓w_for, ↓w_runS, ↓bnd_ret, ↓bnd_no, ofO_some, Option.bind_some, id, List.getElem?_cons_zero, List.getElem?_cons_succ, List.set_cons_zero, List.set_cons_succ, List.length_cons, List.length_nil, if_true, if_false, Bool.false_eq_true, List.map_cons, List.map_nil, List.cons_append, List.nil_append, List.append_nil, List.replicate_succ, List.replicate_zero, ↓reduceIte, Bool.not_true, Bool.not_false, decide_true, decide_false, Nat.reduceAdd, Nat.reduceLT, Nat.reduceLeDiff, List.length_set, true_and, and_true, Int.cast_ofNat_Int, eq_self, sizeS, D.bind]
  refine (dip_call D j1 (by omega) (by omega) (by omega) (by omega)).mono ?_
  rintro _ h2' ⟨i2, rfl, a2, b2, j2, l2⟩
  simp (config := {maxSteps := 3000000}) (disch := first | assumption | with_unfolding_all exact id rfl | with_unfolding_all exact Nat.le_of_ble_eq_true rfl | omega) only [r_add, r_sub, r_mulL, r_mulR, r_mod, r_fdiv, r_divmod, r_pint, r_pintb, r_abs, r_min2, r_max2, r_lent, r_lenl, r_lens, r_lenr, r_tupl, r_tupt, r_negi, r_trub, r_trui, r_lt, r_le, r_gt, r_ge, r_isb, r_isnb, r_idxt, r_idxl, r_idxs, r_idxr, r_atT, r_at0, r_at1, r_at2, r_ix30, r_ix31, r_ix32, r_mkF, r_mkT, r_itt, r_itl, r_its, r_itr, r_stt, r_stl, r_sts, r_isii, r_isib, r_isit, r_isil, r_isis, r_k1, r_k2, r_k3, r_k4, r_k5, r_k6, r_k7, r_k8, r_k9, r_k10, r_k11, r_k12, r_k13, r_k14, r_k15, r_wi0, r_wi1, r_bin0, r_line, r_frzb, r_frzi, r_frzn, r_frzs, r_ret, r_no, ↓r_bnd, r_newO, r_getO, r_getO_set, r_setO, r_setO_set, r_ite, r_nox, ↓w_es0, ↓w_es1, ↓w_cO0, ↓w_cO1, ↓w_ifs0, ↓w_ifs1, ↓w_var, ↓w_con, ↓w_glob, ↓w_bin, ↓w_neg, ↓w_not, ↓w_and, ↓w_or, ↓w_ite, ↓w_cmp, ↓w_cmp2, ↓w_cmp3, ↓w_eqo, ↓w_tup, ↓w_lst, ↓w_idx, ↓w_slc, ↓w_fld, ↓w_call, ↓w_make, ↓w_meth, ↓w_prim, ↓w_isi, ↓w_bm, ↓w_lc, ↓w_rng, ↓w_enum, ↓w_zip, ↓w_seq, ↓w_gName, ↓w_gs0, ↓w_gs1, ↓w_gTup, ↓w_gTupL, ↓w_gSub, ↓w_gFld, ↓w_ss0, ↓w_ss1, ↓w_expr, ↓w_asg, ↓w_aug, ↓w_sret, ↓w_sif, ↓w_rai, ↓w_pass, ↓w_for, ↓w_runS, ↓bnd_ret, ↓bnd_no, ofO_some, Option.bind_some, id, List.getElem?_cons_zero, List.getElem?_cons_succ, List.set_cons_zero, List.set_cons_succ, List.length_cons, List.length_nil, if_true, if_false, Bool.false_eq_true, List.map_cons, List.map_nil, List.cons_append, List.nil_append, List.append_nil, List.replicate_succ, List.replicate_zero, ↓reduceIte, Bool.not_true, Bool.not_false, decide_true, decide_false, Nat.reduceAdd, Nat.reduceLT, Nat.reduceLeDiff, List.length_set, true_and, and_true, Int.cast_ofNat_Int, eq_self, sizeS, D.bind]
  refine (dip_call D j2 (by omega) (by omega) (by omega) (by omega)).mono ?_
  rintro _ h3' ⟨i3, rfl, a3, b3, j3, l3⟩
  have l : h3'.length = h.length := by omega
  rcases (by omega : i3 = 0 ∨ i3 = 1) with rfl | rfl
  · simp (config := {maxSteps := 3000000}) (disch := first | assumption | with_unfolding_all exact id rfl | with_unfolding_all exact Nat.le_of_ble_eq_true rfl | omega) only [r_add, r_sub, r_mulL, r_mulR, r_mod, r_fdiv, r_divmod, r_pint, r_pintb, r_abs, r_min2, r_max2, r_lent, r_lenl, r_lens, r_lenr, r_tupl, r_tupt, r_negi, r_trub, r_trui, r_lt, r_le, r_gt, r_ge, r_isb, r_isnb, r_idxt, r_idxl, r_idxs, r_idxr, r_atT, r_at0, r_at1, r_at2, r_ix30, r_ix31, r_ix32, r_mkF, r_mkT, r_itt, r_itl, r_its, r_itr, r_stt, r_stl, r_sts, r_isii, r_isib, r_isit, r_isil, r_isis, r_k1, r_k2, r_k3, r_k4, r_k5, r_k6, r_k7, r_k8, r_k9, r_k10, r_k11, r_k12, r_k13, r_k14, r_k15, r_wi0, r_wi1, r_bin0, r_line, r_frzb, r_frzi, r_frzn, r_frzs, r_ret, r_no, ↓r_bnd, r_newO, r_getO, r_getO_set, r_setO, r_setO_set, r_ite, r_nox, ↓w_es0, ↓w_es1, ↓w_cO0, ↓w_cO1, ↓w_ifs0, ↓w_ifs1, ↓w_var, ↓w_con, ↓w_glob, ↓w_bin, ↓w_neg, ↓w_not, ↓w_and, ↓w_or, ↓w_ite, ↓w_cmp, ↓w_cmp2, ↓w_cmp3, ↓w_eqo, ↓w_tup, ↓w_lst, ↓w_idx, ↓w_slc, ↓w_fld, ↓w_call, ↓w_make, ↓w_meth, ↓w_prim, ↓w_isi, ↓w_bm, ↓w_lc, ↓w_rng, ↓w_enum, ↓w_zip, ↓w_seq, ↓w_gName, ↓w_gs0, ↓w_gs1, ↓w_gTup, ↓w_gTupL, ↓w_gSub, ↓w_gFld, ↓w_ss0, ↓w_ss1, ↓w_expr, ↓w_asg, ↓w_aug, ↓w_sret, ↓w_sif, ↓w_rai, ↓w_pass, ↓w_for, ↓w_runS, ↓bnd_ret, ↓bnd_no, ofO_some, Option.bind_some, id, List.getElem?_cons_zero, List.getElem?_cons_succ, List.set_cons_zero, List.set_cons_succ, List.length_cons, List.length_nil, if_true, if_false, Bool.false_eq_true, List.map_cons, List.map_nil, List.cons_append, List.nil_append, List.append_nil, List.replicate_succ, List.replicate_zero, ↓reduceIte, Bool.not_true, Bool.not_false, decide_true, decide_false, Nat.reduceAdd, Nat.reduceLT, Nat.reduceLeDiff, List.length_set, true_and, and_true, Int.cast_ofNat_Int, eq_self, take_len l]
    exact ⟨_, rfl, j3, _, rfl, by omega, by omega, j3, l⟩
  · simp (config := {maxSteps := 3000000}) (disch := first | assumption | with_unfolding_all exact id rfl | with_unfolding_all exact Nat.le_of_ble_eq_true rfl | omega) only [r_add, r_sub, r_mulL, r_mulR, r_mod, r_fdiv, r_divmod, r_pint, r_pintb, r_abs, r_min2, r_max2, r_lent, r_lenl, r_lens, r_lenr, r_tupl, r_tupt, r_negi, r_trub, r_trui, r_lt, r_le, r_gt, r_ge, r_isb, r_isnb, r_idxt, r_idxl, r_idxs, r_idxr, r_atT, r_at0, r_at1, r_at2, r_ix30, r_ix31, r_ix32, r_mkF, r_mkT, r_itt, r_itl, r_its, r_itr, r_stt, r_stl, r_sts, r_isii, r_isib, r_isit, r_isil, r_isis, r_k1, r_k2, r_k3, r_k4, r_k5, r_k6, r_k7, r_k8, r_k9, r_k10, r_k11, r_k12, r_k13, r_k14, r_k15, r_wi0, r_wi1, r_bin0, r_line, r_frzb, r_frzi, r_frzn, r_frzs, r_ret, r_no, ↓r_bnd, r_newO, r_getO, r_getO_set, r_setO, r_setO_set, r_ite, r_nox, ↓w_es0, ↓w_es1, ↓w_cO0, ↓w_cO1, ↓w_ifs0, ↓w_ifs1, ↓w_var, ↓w_con, ↓w_glob, ↓w_bin, ↓w_neg, ↓w_not, ↓w_and, ↓w_or, ↓w_ite, ↓w_cmp, ↓w_cmp2, ↓w_cmp3, ↓w_eqo, ↓w_tup, ↓w_lst, ↓w_idx, ↓w_slc, ↓w_fld, ↓w_call, ↓w_make, ↓w_meth, ↓w_prim, ↓w_isi, ↓w_bm, ↓w_lc, ↓w_rng, ↓w_enum, ↓w_zip, ↓w_seq, ↓w_gName, ↓w_gs0, ↓w_gs1, ↓w_gTup, ↓w_gTupL, ↓w_gSub, ↓w_gFld, ↓w_ss0, ↓w_ss1, ↓w_expr, ↓w_asg, ↓w_aug, ↓w_sret, ↓w_sif, ↓w_rai, ↓w_pass, ↓w_for, ↓w_runS, ↓bnd_ret, ↓bnd_no, ofO_some, Option.bind_some, id, List.getElem?_cons_zero, List.getElem?_cons_succ, List.set_cons_zero, List.set_cons_succ, List.length_cons, List.length_nil, if_true, if_false, Bool.false_eq_true, List.map_cons, List.map_nil, List.cons_append, List.nil_append, List.append_nil, List.replicate_succ, List.replicate_zero, ↓reduceIte, Bool.not_true, Bool.not_false, decide_true, decide_false, Nat.reduceAdd, Nat.reduceLT, Nat.reduceLeDiff, List.length_set, true_and, and_true, Int.cast_ofNat_Int, eq_self, take_len l]
    exact ⟨_, rfl, j3, _, rfl, by omega, by omega, j3, l⟩
end
end Mt

set_option maxHeartbeats 8000000
/-! Mt35: data without truths, compared. -/
namespace Mt
open PySem
mutual
/-- numbers, texts, None, tuples and lists of such, so deep -/
def T.dat : Nat → T → Bool
  | _, .non => true
  | _, .int _ => true
  | _, .str x => PyData.strOk x
  | n + 1, .tup xs => T.dats n xs
  | n + 1, .lst xs => T.dats n xs
  | _, _ => false
def T.dats : Nat → List T → Bool
  | _, [] => true
  | n, x :: xs => T.dat n x && T.dats n xs
end
mutual
theorem dat_py : ∀ {n : Nat} {t : T}, T.dat n t = true → ∃ d, t.py = some d ∧ d.canLay0 = true ∧ d.depth ≤ n := fun {n t} h => by
  cases t with
  | non => exact ⟨_, rfl, rfl, Nat.zero_le _⟩
  | int i => exact ⟨_, rfl, rfl, Nat.zero_le _⟩
  | str x => exact ⟨_, rfl, h, Nat.zero_le _⟩
  | tup xs =>
    cases n with
    | zero => cases h
    | succ n =>
      obtain ⟨ds, e, c, l⟩ := dats_py (n := n) (xs := xs) h
      exact ⟨.tuple ds, by show (T.pys xs).map _ = _; rw [e]; rfl, c, Nat.succ_le_succ l⟩
  | lst xs =>
    cases n with
    | zero => cases h
    | succ n =>
      obtain ⟨ds, e, c, l⟩ := dats_py (n := n) (xs := xs) h
      exact ⟨.list ds, by show (T.pys xs).map _ = _; rw [e]; rfl, c, Nat.succ_le_succ l⟩
  | bl b => cases n <;> cases h
  | byt b => cases n <;> cases h
  | dic a b => cases n <;> cases h
  | obj a b c => cases n <;> cases h
  | ref a => cases n <;> cases h
  | scr a => cases n <;> cases h
theorem dats_py : ∀ {n : Nat} {xs : List T}, T.dats n xs = true → ∃ ds, T.pys xs = some ds ∧ PyData.canLayAll0 ds = true ∧ PyData.depthAll ds ≤ n := fun {n xs} h => by
  cases xs with
  | nil => exact ⟨[], rfl, rfl, Nat.zero_le _⟩
  | cons x xs =>
    obtain ⟨h1, h2⟩ := Bool.and_eq_true_iff.mp (show (T.dat n x && T.dats n xs) = true from h)
    obtain ⟨d, e, c, l⟩ := dat_py h1
    obtain ⟨ds, e', c', l'⟩ := dats_py h2
    refine ⟨d :: ds, ?_, ?_, ?_⟩
    · show (match T.py x, T.pys xs with
        | some d, some ds => some (d :: ds)
        | _, _ => none) = _
      rw [e, e']
    · show (d.canLay0 && PyData.canLayAll0 ds) = true
      rw [c, c']; rfl
    · show max d.depth (PyData.depthAll ds) ≤ n
      omega
end
theorem some_inj' {α : Type} {a b : α} (h : some a = some b) : a = b := Option.some.inj h
mutual
theorem dat_eqv : ∀ {n m : Nat} {s t : T} {d e : PyData}, T.dat n s = true → T.dat m t = true → s.py = some d → t.py = some e → PyData.eqv d e = T.beq s t := fun {n m s t d e} hs ht es et => by
  cases s
  case bl => cases n <;> cases hs
  case byt => cases n <;> cases hs
  case dic => cases n <;> cases hs
  case obj => cases n <;> cases hs
  case ref => cases n <;> cases hs
  case scr => cases n <;> cases hs
  all_goals cases t
  all_goals first
    | (exfalso; cases m <;> cases ht; done)
    | skip
  all_goals first
    | (cases es; cases et; rfl; done)
    | skip
  case non.tup ys =>
    cases es
    obtain ⟨ds, e1, e2⟩ := Option.map_eq_some_iff.mp (show (T.pys ys).map PyData.tuple = some e from et)
    subst e2; rfl
  case non.lst ys =>
    cases es
    obtain ⟨ds, e1, e2⟩ := Option.map_eq_some_iff.mp (show (T.pys ys).map PyData.list = some e from et)
    subst e2; rfl
  case int.tup ys =>
    cases es
    obtain ⟨ds, e1, e2⟩ := Option.map_eq_some_iff.mp (show (T.pys ys).map PyData.tuple = some e from et)
    subst e2; rfl
  case int.lst ys =>
    cases es
    obtain ⟨ds, e1, e2⟩ := Option.map_eq_some_iff.mp (show (T.pys ys).map PyData.list = some e from et)
    subst e2; rfl
  case str.tup ys =>
    cases es
    obtain ⟨ds, e1, e2⟩ := Option.map_eq_some_iff.mp (show (T.pys ys).map PyData.tuple = some e from et)
    subst e2; rfl
  case str.lst ys =>
    cases es
    obtain ⟨ds, e1, e2⟩ := Option.map_eq_some_iff.mp (show (T.pys ys).map PyData.list = some e from et)
    subst e2; rfl
  case tup.non xs =>
    cases et
    obtain ⟨ds, e1, e2⟩ := Option.map_eq_some_iff.mp (show (T.pys xs).map PyData.tuple = some d from es)
    subst e2; rfl
  case tup.int xs i =>
    cases et
    obtain ⟨ds, e1, e2⟩ := Option.map_eq_some_iff.mp (show (T.pys xs).map PyData.tuple = some d from es)
    subst e2; rfl
  case tup.str xs i =>
    cases et
    obtain ⟨ds, e1, e2⟩ := Option.map_eq_some_iff.mp (show (T.pys xs).map PyData.tuple = some d from es)
    subst e2; rfl
  case lst.non xs =>
    cases et
    obtain ⟨ds, e1, e2⟩ := Option.map_eq_some_iff.mp (show (T.pys xs).map PyData.list = some d from es)
    subst e2; rfl
  case lst.int xs i =>
    cases et
    obtain ⟨ds, e1, e2⟩ := Option.map_eq_some_iff.mp (show (T.pys xs).map PyData.list = some d from es)
    subst e2; rfl
  case lst.str xs i =>
    cases et
    obtain ⟨ds, e1, e2⟩ := Option.map_eq_some_iff.mp (show (T.pys xs).map PyData.list = some d from es)
    subst e2; rfl
  case tup.lst xs ys =>
    obtain ⟨ds, e1, e2⟩ := Option.map_eq_some_iff.mp (show (T.pys xs).map PyData.tuple = some d from es)
    obtain ⟨ds', e1', e2'⟩ := Option.map_eq_some_iff.mp (show (T.pys ys).map PyData.list = some e from et)
    subst e2 e2'; rfl
  case lst.tup xs ys =>
    obtain ⟨ds, e1, e2⟩ := Option.map_eq_some_iff.mp (show (T.pys xs).map PyData.list = some d from es)
    obtain ⟨ds', e1', e2'⟩ := Option.map_eq_some_iff.mp (show (T.pys ys).map PyData.tuple = some e from et)
    subst e2 e2'; rfl
  case tup.tup xs ys =>
    obtain ⟨ds, e1, e2⟩ := Option.map_eq_some_iff.mp (show (T.pys xs).map PyData.tuple = some d from es)
    obtain ⟨ds', e1', e2'⟩ := Option.map_eq_some_iff.mp (show (T.pys ys).map PyData.tuple = some e from et)
    subst e2 e2'
    cases n with
    | zero => cases hs
    | succ n => cases m with
      | zero => cases ht
      | succ m => exact dats_eqv (n := n) (m := m) hs ht e1 e1'
  case lst.lst xs ys =>
    obtain ⟨ds, e1, e2⟩ := Option.map_eq_some_iff.mp (show (T.pys xs).map PyData.list = some d from es)
    obtain ⟨ds', e1', e2'⟩ := Option.map_eq_some_iff.mp (show (T.pys ys).map PyData.list = some e from et)
    subst e2 e2'
    cases n with
    | zero => cases hs
    | succ n => cases m with
      | zero => cases ht
      | succ m => exact dats_eqv (n := n) (m := m) hs ht e1 e1'
theorem dats_eqv : ∀ {n m : Nat} {xs ys : List T} {ds es : List PyData}, T.dats n xs = true → T.dats m ys = true → T.pys xs = some ds → T.pys ys = some es → PyData.eqvAll ds es = T.beqs xs ys := fun {n m xs ys ds es} hs ht e1 e2 => by
  cases xs with
  | nil =>
    cases e1
    cases ys with
    | nil => cases e2; rfl
    | cons y ys =>
      obtain ⟨e, g1, _, _⟩ := dat_py (Bool.and_eq_true_iff.mp (show (T.dat m y && T.dats m ys) = true from ht)).1
      obtain ⟨es', g2, _, _⟩ := dats_py (Bool.and_eq_true_iff.mp (show (T.dat m y && T.dats m ys) = true from ht)).2
      have : T.pys (y :: ys) = some (e :: es') := by
        show (match T.py y, T.pys ys with
          | some d, some ds => some (d :: ds)
          | _, _ => none) = _
        rw [g1, g2]
      cases e2.symm.trans this
      rfl
  | cons x xs =>
    obtain ⟨hx, hxs⟩ := Bool.and_eq_true_iff.mp (show (T.dat n x && T.dats n xs) = true from hs)
    obtain ⟨d, f1, _, _⟩ := dat_py hx
    obtain ⟨ds', f2, _, _⟩ := dats_py hxs
    have t1 : T.pys (x :: xs) = some (d :: ds') := by
      show (match T.py x, T.pys xs with
        | some d, some ds => some (d :: ds)
        | _, _ => none) = _
      rw [f1, f2]
    cases e1.symm.trans t1
    cases ys with
    | nil => cases e2; rfl
    | cons y ys =>
      obtain ⟨hy, hys⟩ := Bool.and_eq_true_iff.mp (show (T.dat m y && T.dats m ys) = true from ht)
      obtain ⟨e, g1, _, _⟩ := dat_py hy
      obtain ⟨es', g2, _, _⟩ := dats_py hys
      have : T.pys (y :: ys) = some (e :: es') := by
        show (match T.py y, T.pys ys with
          | some d, some ds => some (d :: ds)
          | _, _ => none) = _
        rw [g1, g2]
      cases e2.symm.trans this
      show (PyData.eqv d e && PyData.eqvAll ds' es') = (T.beq x y && T.beqs xs ys)
      rw [dat_eqv hx hy f1 g1, dats_eqv hxs hys f2 g2]
end
theorem dat_shaped {n : Nat} {d : PyData} (hn : n ≤ 64) (c : d.canLay0 = true) (l : d.depth ≤ n) : SeqAt.shaped d = true := by
  unfold SeqAt.shaped
  rw [c, decide_eq_true (by omega : d.depth ≤ 64)]
  rfl
instance : DecidableEq T := fun a b => if h : T.beq a b = true then .isTrue (T.beq_eq h) else .isFalse fun e => h (e ▸ T.beq_refl a)
theorem beq_dec (a b : T) : T.beq a b = decide (a = b) := by
  by_cases h : a = b
  · rw [decide_eq_true h, h, T.beq_refl]
  · rw [decide_eq_false h]
    cases e : T.beq a b with
    | false => rfl
    | true => exact (h (T.beq_eq e)).elim
theorem eqT_dat {a b : T} (ha : T.dat 64 a = true) (hb : T.dat 64 b = true) : eqT a b = some (decide (a = b)) := by
  obtain ⟨d, e1, c1, l1⟩ := dat_py ha
  obtain ⟨e, e2, c2, l2⟩ := dat_py hb
  unfold eqT
  rw [e1, e2, ← beq_dec, ← dat_eqv ha hb e1 e2]
  show (if (SeqAt.shaped d && SeqAt.shaped e) = true then _ else _) = _
  rw [dat_shaped (Nat.le_refl _) c1 l1, dat_shaped (Nat.le_refl _) c2 l2]
  rfl
theorem any_eqv {x : T} {d : PyData} (hx : T.dat 64 x = true) (e : x.py = some d) : ∀ {ys : List T} {es : List PyData}, T.dats 63 ys = true → T.pys ys = some es → (es.any fun z => PyData.eqv z d) = decide (x ∈ ys)
  | [], es, _, e2 => by cases e2; rfl
  | y :: ys, es, h, e2 => by
    obtain ⟨hy, hys⟩ := Bool.and_eq_true_iff.mp (show (T.dat 63 y && T.dats 63 ys) = true from h)
    obtain ⟨e1, g1, _, _⟩ := dat_py hy
    obtain ⟨es', g2, _, _⟩ := dats_py hys
    have : T.pys (y :: ys) = some (e1 :: es') := by
      show (match T.py y, T.pys ys with
        | some d, some ds => some (d :: ds)
        | _, _ => none) = _
      rw [g1, g2]
    cases e2.symm.trans this
    show (PyData.eqv e1 d || es'.any fun z => PyData.eqv z d) = _
    rw [dat_eqv hy hx g1 e, any_eqv hx e hys g2, beq_dec]
    by_cases u : y = x
    · rw [decide_eq_true u, Bool.true_or]; exact (decide_eq_true (by rw [u]; exact List.mem_cons_self)).symm
    · rw [decide_eq_false u, Bool.false_or]
      by_cases v : x ∈ ys
      · rw [decide_eq_true v, decide_eq_true (List.mem_cons_of_mem _ v)]
      · rw [decide_eq_false v, decide_eq_false]
        intro w
        rcases List.mem_cons.mp w with w | w
        · exact u w.symm
        · exact v w
theorem inT_tup {x : T} {ys : List T} (hx : T.dat 64 x = true) (hy : T.dats 63 ys = true) : inT x (.tup ys) = some (decide (x ∈ ys)) := by
  obtain ⟨d, e1, c1, l1⟩ := dat_py hx
  obtain ⟨es, e2, c2, l2⟩ := dats_py hy
  show (match x.py, T.pys ys with
    | some d, some ds => if SeqAt.shaped d && SeqAt.shaped (.tuple ds) then some (ds.any fun z => PyData.eqv z d) else none
    | _, _ => none) = _
  rw [e1, e2]
  show (if (SeqAt.shaped d && SeqAt.shaped (.tuple es)) = true then _ else _) = _
  rw [dat_shaped (Nat.le_refl _) c1 l1, dat_shaped (d := .tuple es) (Nat.le_refl 64) c2 (Nat.succ_le_succ l2), ← any_eqv hx e1 hy e2]
  rfl
theorem inT_lst {x : T} {ys : List T} (hx : T.dat 64 x = true) (hy : T.dats 63 ys = true) : inT x (.lst ys) = some (decide (x ∈ ys)) := by
  obtain ⟨d, e1, c1, l1⟩ := dat_py hx
  obtain ⟨es, e2, c2, l2⟩ := dats_py hy
  show (match x.py, T.pys ys with
    | some d, some ds => if SeqAt.shaped d && SeqAt.shaped (.list ds) then some (ds.any fun z => PyData.eqv z d) else none
    | _, _ => none) = _
  rw [e1, e2]
  show (if (SeqAt.shaped d && SeqAt.shaped (.list es)) = true then _ else _) = _
  rw [dat_shaped (Nat.le_refl _) c1 l1, dat_shaped (d := .list es) (Nat.le_refl 64) c2 (Nat.succ_le_succ l2), ← any_eqv hx e1 hy e2]
  rfl
/-- rules, by data -/
theorem u_eqd {a b : T} (ha : T.dat 64 a = true) (hb : T.dat 64 b = true) : cmpT .eq a b = some (decide (a = b)) := eqT_dat ha hb
theorem u_ned {a b : T} (ha : T.dat 64 a = true) (hb : T.dat 64 b = true) : cmpT .ne a b = some (!decide (a = b)) := by
  show (eqT a b).map (!·) = _
  rw [eqT_dat ha hb]; rfl
theorem r_eqi (i j : Int) : cmpT .eq (.int i) (.int j) = some (decide (i = j)) := by
  rw [u_eqd rfl rfl]
  congr 1
  by_cases h : i = j
  · rw [h]; simp
  · rw [decide_eq_false h, decide_eq_false (fun e => h (T.int.inj e))]
theorem r_nei (i j : Int) : cmpT .ne (.int i) (.int j) = some (!decide (i = j)) := by
  rw [u_ned rfl rfl]
  congr 2
  by_cases h : i = j
  · rw [h]; simp
  · rw [decide_eq_false h, decide_eq_false (fun e => h (T.int.inj e))]
theorem r_eqb (a b : Bool) : cmpT .eq (.bl a) (.bl b) = some (decide (a = b)) := by
  cases a <;> cases b <;> rfl
theorem u_int {x : T} {ys : List T} (hx : T.dat 64 x = true) (hy : T.dats 63 ys = true) : cmpT .in_ x (.tup ys) = some (decide (x ∈ ys)) := inT_tup hx hy
theorem u_inl {x : T} {ys : List T} (hx : T.dat 64 x = true) (hy : T.dats 63 ys = true) : cmpT .in_ x (.lst ys) = some (decide (x ∈ ys)) := inT_lst hx hy
theorem u_nit {x : T} {ys : List T} (hx : T.dat 64 x = true) (hy : T.dats 63 ys = true) : cmpT .nin x (.tup ys) = some (!decide (x ∈ ys)) := by
  show (inT _ _).map (!·) = _
  rw [inT_tup hx hy]; rfl
theorem u_nil {x : T} {ys : List T} (hx : T.dat 64 x = true) (hy : T.dats 63 ys = true) : cmpT .nin x (.lst ys) = some (!decide (x ∈ ys)) := by
  show (inT _ _).map (!·) = _
  rw [inT_lst hx hy]; rfl
/-! comprehensions -/
theorem M_ret {α : Type} {m : M α} {v : α} (e : ∀ h, W m h fun a h' => a = v ∧ h' = h) : m = ret v := funext fun h => by
  obtain ⟨a, h', e1, rfl, rfl⟩ := e h
  exact e1
theorem W_compR {f : T → M (Option T)} {xs : List T} {h : Sto} {Q : List T → Sto → Prop} (φ : T → Option T) (hf : ∀ x ∈ xs, f x = ret (φ x)) (q : Q (xs.filterMap φ) h) : W (compL (ret ()) f xs) h Q := by
  rw [compL_ret hf]; exact (r_ret _).mpr q
theorem u_comp0 {f : T → M (Option T)} {h : Sto} {Q : List T → Sto → Prop} : W (compL (ret ()) f []) h Q ↔ Q [] h := by
  show W (bnd (ret ()) fun _ => ret []) h Q ↔ _
  rw [bnd_ret, r_ret]
theorem u_comp1 {f : T → M (Option T)} {x : T} {xs : List T} {h : Sto} {Q : List T → Sto → Prop} : W (compL (ret ()) f (x :: xs)) h Q ↔ W (f x) h fun o h1 => W (compL (ret ()) f xs) h1 fun ys h2 => Q (match o with
    | some y => y :: ys
    | none => ys) h2 := by
  show W (bnd (ret ()) fun _ => bnd (f x) _) h Q ↔ _
  rw [bnd_ret, r_bnd]
  have : ∀ (o : Option T) (h1 : Sto), W (match o with
      | some y => bnd (compL (ret ()) f xs) fun ys => ret (y :: ys)
      | none => compL (ret ()) f xs) h1 Q ↔ W (compL (ret ()) f xs) h1 fun ys h2 => Q (match o with
    | some y => y :: ys
    | none => ys) h2 := fun o h1 => by
    cases o with
    | none => exact Iff.rfl
    | some y =>
      show W (bnd _ _) h1 Q ↔ _
      rw [r_bnd]
      exact ⟨fun w => w.mono fun b h' => (r_ret _).mp, fun w => w.mono fun b h' => (r_ret _).mpr⟩
  constructor
  · exact fun w => w.mono fun o h1 => (this o h1).mp
  · exact fun w => w.mono fun o h1 => (this o h1).mpr
theorem u_for0 {f : T → Env → M (Fl × Env)} {σ : Env} {h : Sto} {Q : Fl × Env → Sto → Prop} : W (forL (ret ()) f [] σ) h Q ↔ Q (.nx, σ) h := by
  show W (bnd (ret ()) fun _ => ret (.nx, σ)) h Q ↔ _
  rw [bnd_ret, r_ret]
theorem compL2_ret {f : T → M (List T)} {φ : T → List T} : ∀ {xs : List T}, (∀ x ∈ xs, f x = ret (φ x)) → compL2 (ret ()) f xs = ret (xs.flatMap φ)
  | [], _ => rfl
  | x :: xs, hf => by
    show bnd (ret ()) (fun _ => bnd (f x) fun ys => bnd (compL2 (ret ()) f xs) fun zs => ret (ys ++ zs)) = _
    rw [bnd_ret, hf x List.mem_cons_self, bnd_ret, compL2_ret fun y m => hf y (List.mem_cons_of_mem _ m), bnd_ret]
    rfl
theorem W_comp2R {f : T → M (List T)} {xs : List T} {h : Sto} {Q : List T → Sto → Prop} (φ : T → List T) (hf : ∀ x ∈ xs, f x = ret (φ x)) (q : Q (xs.flatMap φ) h) : W (compL2 (ret ()) f xs) h Q := by
  rw [compL2_ret hf]; exact (r_ret _).mpr q
theorem v_lc2 {h : Sto} {Q : T → Sto → Prop} (σ : Env) (m : Bool) (tg : CG) (it : CI) (ifs : List CE) (tg' : CG) (it' : CI) (ifs' : List CE) (elt : CE) (own own' : List Nat) : V (cLc2 m tg it ifs tg' it' ifs' elt own own' σ) h Q ↔ V (it σ) h fun r h1 => V (compL2 r.2 (fun x => bnd (tg x (wipe σ own)) fun σ' => bnd (cIfs ifs σ') fun t =>
      if t then bnd (it' σ') fun r' => compL r'.2 (fun x' => bnd (tg' x' (wipe σ' own')) fun σ'' => bnd (cIfs ifs' σ'') fun t' =>
        if t' then bnd (elt σ'') fun y => ret (some y) else ret none) r'.1 else ret []) r.1) h1 fun ys h2 => ys.length ≤ sizeLine ∧ V (mkL m ys) h2 Q := by
  unfold cLc2; simp only [v_bnd, v_nox, vr_ite, v_no, if_false_right]
theorem w_lc2 {h : Sto} {Q : T → Sto → Prop} (σ : Env) (m : Bool) (tg : CG) (it : CI) (ifs : List CE) (tg' : CG) (it' : CI) (ifs' : List CE) (elt : CE) (own own' : List Nat) : W (cLc2 m tg it ifs tg' it' ifs' elt own own' σ) h Q ↔ W (it σ) h fun r h1 => W (compL2 r.2 (fun x => bnd (tg x (wipe σ own)) fun σ' => bnd (cIfs ifs σ') fun t =>
      if t then bnd (it' σ') fun r' => compL r'.2 (fun x' => bnd (tg' x' (wipe σ' own')) fun σ'' => bnd (cIfs ifs' σ'') fun t' =>
        if t' then bnd (elt σ'') fun y => ret (some y) else ret none) r'.1 else ret []) r.1) h1 fun ys h2 => ys.length ≤ sizeLine ∧ W (mkL m ys) h2 Q := v_lc2 ..
theorem r_rng {i j : Int} (e : -(2 ^ 62) ≤ i ∧ i < 2 ^ 62 ∧ -(2 ^ 62) ≤ j ∧ j < 2 ^ 62) : (if -(2 ^ 62) ≤ i ∧ i < 2 ^ 62 ∧ -(2 ^ 62) ≤ j ∧ j < 2 ^ 62 then ret ((List.range (j - i).toNat).map fun (k : Nat) => T.int (i + k), ret ()) else no : M (List T × M Unit)) = ret ((List.range (j - i).toNat).map fun (k : Nat) => .int (i + k), ret ()) := if_pos e
theorem w_bme {h : Sto} {Q : Unit → Sto → Prop} (p : Bm) {n : Nat} {xs : List T} (e : h[n]? = some (.lst xs)) : W (bmC p (.ref n)) h Q ↔ Q () h := by
  cases p <;> (show W (bnd (getO n) _) h Q ↔ _; rw [r_bnd, r_getO e, r_ret])
theorem w_app {h : Sto} {Q : T → Sto → Prop} {n : Nat} {xs : List T} {x : T} (e : h[n]? = some (.lst xs)) (l : xs.length < sizeLine) : W (bmT .append (.ref n) [x]) h Q ↔ Q .non (h.set n (.lst (xs ++ [x]))) := by
  show W (bnd (getO n) _) h Q ↔ _
  rw [r_bnd, r_getO e]
  show W (if xs.length < sizeLine then bnd (setO n (.lst (xs ++ [x]))) fun _ => ret .non else no) h Q ↔ _
  rw [if_pos l, r_bnd, r_setO _ (List.getElem?_eq_some_iff.mp e).1, r_ret]
theorem w_ext {h : Sto} {Q : T → Sto → Prop} {n : Nat} {xs ys : List T} (e : h[n]? = some (.lst xs)) (l : xs.length + ys.length ≤ sizeLine) : W (bmT .extend (.ref n) [.lst ys]) h Q ↔ Q .non (h.set n (.lst (xs ++ ys))) := by
  show W (bnd (getO n) _) h Q ↔ _
  rw [r_bnd, r_getO e]
  show W (if xs.length + ys.length ≤ sizeLine then bnd (setO n (.lst (xs ++ ys))) fun _ => ret .non else no) h Q ↔ _
  rw [if_pos l, r_bnd, r_setO _ (List.getElem?_eq_some_iff.mp e).1, r_ret]
theorem line1000 : 1000 ≤ sizeLine := by decide +kernel
/-! places -/
abbrev Pl := Int × Int
def enc (p : Pl) : T := .tup [.int p.1, .int p.2]
def ple (p q : Pl) : Bool := decide (p.1 < q.1 ∨ (p.1 = q.1 ∧ p.2 ≤ q.2))
def psort : List Pl → List Pl := ssort ple
theorem sins_map {α β : Type} (f : α → β) (le : β → β → Bool) (x : α) : ∀ l : List α, sins le (f x) (l.map f) = (sins (fun a b => le (f a) (f b)) x l).map f
  | [] => rfl
  | y :: l => by
    show sins le (f x) (f y :: l.map f) = _
    unfold sins
    rw [sins_map f le x l]
    cases le (f x) (f y) <;> rfl
theorem ssort_map {α β : Type} (f : α → β) (le : β → β → Bool) : ∀ l : List α, ssort le (l.map f) = (ssort (fun a b => le (f a) (f b)) l).map f
  | [] => rfl
  | x :: l => by
    show sins le (f x) (ssort le (l.map f)) = List.map f (sins _ x (ssort _ l))
    rw [ssort_map f le l, sins_map]
theorem tsort_enc (ps : List Pl) : tsort (ps.map enc) = (psort ps).map enc := by
  unfold tsort psort
  rw [ssort_map]
  have : (fun a b : Pl => PySem.W.dataLe false pyD (enc a) (enc b)) = ple := by
    have e := PySem.W.dataLe_ii (fun p : Pl => p.1) (fun p : Pl => p.2)
    exact e
  rw [this]
theorem sortOk_enc (ps : List Pl) : sortOk (ps.map enc) = true := by
  unfold sortOk
  rw [Bool.and_eq_true, Bool.and_eq_true, Bool.or_eq_true]
  refine ⟨?_, ?_, Or.inl ?_⟩
  · rw [List.all_map, List.all_eq_true]; exact fun p _ => rfl
  · rw [List.all_map, List.all_eq_true]
    intro p _
    show (List.map enc ps).all _ = true
    rw [List.all_map, List.all_eq_true]
    exact fun q _ => rfl
  · rw [List.all_map, List.all_eq_true]; exact fun p _ => rfl
theorem r_sortp (m : Bool) (ps : List Pl) : primT .sorted m [.lst (ps.map enc)] = mkL m ((psort ps).map enc) := by
  show sortT m (ps.map enc) = _
  cases ps with
  | nil => rfl
  | cons p ps =>
    show (match intsT (enc p :: ps.map enc) with
      | some is => mkL m ((isort is).map .int)
      | none => if sortOk (enc p :: ps.map enc) then mkL m (tsort (enc p :: ps.map enc)) else no) = _
    have e : intsT (enc p :: ps.map enc) = none := rfl
    rw [e]
    show (if sortOk ((p :: ps).map enc) = true then mkL m (tsort ((p :: ps).map enc)) else no) = _
    rw [if_pos (sortOk_enc _), tsort_enc]
theorem dats_enc (n : Nat) (ps : List Pl) : T.dats (n + 1) (ps.map enc) = true := by
  induction ps with
  | nil => cases n <;> rfl
  | cons p ps ih =>
    show (T.dat (n + 1) (enc p) && T.dats (n + 1) (ps.map enc)) = true
    rw [ih, Bool.and_true]
    cases n <;> rfl
theorem mem_enc {p : Pl} {ps : List Pl} : enc p ∈ ps.map enc ↔ p ∈ ps := by
  constructor
  · intro m
    obtain ⟨q, m, e⟩ := List.mem_map.mp m
    unfold enc at e
    injection e with e
    injection e with e1 e2
    injection e2 with e2 _
    injection e1 with e1
    injection e2 with e2
    have : q = p := Prod.ext e1 e2
    rw [← this]; exact m
  · exact fun m => List.mem_map_of_mem m
theorem enc_inj {p q : Pl} (e : enc p = enc q) : p = q := by
  unfold enc at e
  injection e with e
  injection e with e1 e2
  injection e2 with e2 _
  injection e1 with e1
  injection e2 with e2
  exact Prod.ext e1 e2
theorem frz_enc (n : Nat) (h : Sto) (p : Pl) : frz n h (enc p) = some (enc p) := rfl
theorem frzWs_map (r : Nat → Option T) {ps : List T} (e : ∀ p ∈ ps, frzW r p = some p) : frzWs r ps = some ps := by
  induction ps with
  | nil => rfl
  | cons p ps ih =>
    show (match frzW r p, frzWs r ps with
      | some y, some ys => some (y :: ys)
      | _, _ => none) = _
    rw [e p List.mem_cons_self, ih fun q m => e q (List.mem_cons_of_mem _ m)]
theorem frz_encs (n : Nat) (h : Sto) (ps : List Pl) : frz n h (.tup (ps.map enc)) = some (.tup (ps.map enc)) := by
  show (frzWs _ (ps.map enc)).map T.tup = _
  rw [frzWs_map _ fun p m => by obtain ⟨q, _, rfl⟩ := List.mem_map.mp m; rfl]
  rfl
theorem frz_encl (n : Nat) (h : Sto) (ps : List Pl) : frz n h (.lst (ps.map enc)) = some (.lst (ps.map enc)) := by
  show (frzWs _ (ps.map enc)).map T.lst = _
  rw [frzWs_map _ fun p m => by obtain ⟨q, _, rfl⟩ := List.mem_map.mp m; rfl]
  rfl
/-- all places of a size -/
def pls (t : Nat) : List Pl := (List.range t).flatMap fun (r : Nat) => (List.range (r + 1)).map fun (a : Nat) => (((r : Nat) : Int), ((a : Nat) : Int))
/-- such places as pass -/
def kp (c : Pl → Bool) : T → Option T
  | .tup [.int r, .int a] => if c (r, a) then some (.tup [.int r, .int a]) else none
  | _ => none
theorem kp_one (c : Pl → Bool) (p : Pl) : kp c (enc p) = if c p then some (enc p) else none := by
  obtain ⟨x, y⟩ := p
  rfl
theorem kp_enc (c : Pl → Bool) (ps : List Pl) : (ps.map enc).filterMap (kp c) = (ps.filter c).map enc := by
  induction ps with
  | nil => rfl
  | cons p ps ih =>
    rw [List.map_cons, List.filterMap_cons, List.filter_cons, ih, kp_one]
    cases c p <;> rfl
theorem r_zip1 (x y : T) (xs ys : List T) : List.zip (x :: xs) (y :: ys) = (x, y) :: List.zip xs ys := rfl
theorem r_zip0 (ys : List T) : List.zip ([] : List T) ys = [] := rfl
theorem r_sort3 (m : Bool) (x y z : Int) : primT .sorted m [.lst [.int x, .int y, .int z]] = mkL m ((isort [x, y, z]).map .int) := rfl
theorem dats_int (n : Nat) (is : List Int) : T.dats n (is.map .int) = true := by
  induction is with
  | nil => cases n <;> rfl
  | cons i is ih =>
    show (T.dat n (.int i) && T.dats n (is.map .int)) = true
    rw [ih, Bool.and_true]
    cases n <;> rfl
theorem map_int_inj : ∀ {is js : List Int}, is.map T.int = js.map T.int → is = js
  | [], [], _ => rfl
  | i :: is, j :: js, e => by
    injection e with e1 e2
    injection e1 with e1
    rw [e1, map_int_inj e2]
  | [], j :: js, e => nomatch e
  | i :: is, [], e => nomatch e
theorem r_eql3 (is : List Int) (a b c : Int) : cmpT .eq (.lst (is.map .int)) (.lst [.int a, .int b, .int c]) = some (decide (is = [a, b, c])) := by
  rw [u_eqd (a := .lst (is.map .int)) (b := .lst [.int a, .int b, .int c]) (dats_int 63 is) rfl]
  congr 1
  by_cases h : is = [a, b, c]
  · rw [h]; simp
  · rw [decide_eq_false h, decide_eq_false]
    intro e
    injection e with e
    exact h (map_int_inj (js := [a, b, c]) e)
theorem bls_rep (n : Nat) : blsT (List.replicate n (.bl true)) = some (List.replicate n true) := by
  induction n with
  | zero => rfl
  | succ n ih =>
    show (blsT (List.replicate n (.bl true))).map (true :: ·) = _
    rw [ih]; rfl
theorem r_allT (m : Bool) (n : Nat) : primT .all m [.lst (List.replicate n (.bl true))] = ret (.bl true) := by
  show bnd (ofO (blsT (List.replicate n (.bl true)))) (fun bs => ret (T.bl (bs.all id))) = _
  rw [bls_rep]
  show ret (T.bl ((List.replicate n true).all id)) = _
  have : (List.replicate n true).all id = true := by
    rw [List.all_eq_true]
    intro x m
    exact (List.mem_replicate.mp m).2
  rw [this]
theorem filterMap_const {α β : Type} (b : β) (l : List α) : (l.filterMap fun _ => some b) = List.replicate l.length b := by
  induction l with
  | nil => rfl
  | cons a l ih =>
    rw [List.filterMap_cons, ih]; rfl
theorem r_alll (m : Bool) (bs : List Bool) : primT .all m [.lst (bs.map .bl)] = ret (.bl (bs.all id)) := by
  have : blsT (bs.map .bl) = some bs := by
    induction bs with
    | nil => rfl
    | cons b bs ih =>
      show (blsT (bs.map .bl)).map (b :: ·) = _
      rw [ih]; rfl
  show bnd (ofO (blsT (bs.map .bl))) (fun bs => ret (T.bl (bs.all id))) = _
  rw [this]; rfl
mutual
/-- tuples, numbers, texts, so deep -/
def isd : Nat → T → Bool
  | _, .int _ => true
  | _, .str x => PyData.strOk x
  | n + 1, .tup xs => decide (xs.length ≤ 1000) && isds n xs
  | _, _ => false
def isds : Nat → List T → Bool
  | _, [] => true
  | n, x :: xs => isd n x && isds n xs
end
theorem isds_at : ∀ {n : Nat} {xs : List T} {j : Nat} {x : T}, isds n xs = true → xs[j]? = some x → isd n x = true
  | n, y :: ys, 0, x, h, e => by
    cases e
    exact (Bool.and_eq_true_iff.mp (show (isd n y && isds n ys) = true from h)).1
  | n, y :: ys, j + 1, x, h, e => isds_at (j := j) (Bool.and_eq_true_iff.mp (show (isd n y && isds n ys) = true from h)).2 e
  | n, [], j, x, h, e => nomatch e
theorem isds_enc (n : Nat) (ps : List Pl) : isds (n + 1) (ps.map enc) = true := by
  induction ps with
  | nil => rfl
  | cons p ps ih =>
    show (isd (n + 1) (enc p) && isds (n + 1) (ps.map enc)) = true
    rw [ih, Bool.and_true]
    cases n <;> rfl
theorem isd_encs (n : Nat) {ps : List Pl} (l : ps.length ≤ 1000) : isd (n + 2) (.tup (ps.map enc)) = true := by
  show (decide ((ps.map enc).length ≤ 1000) && isds (n + 1) (ps.map enc)) = true
  rw [isds_enc, List.length_map, decide_eq_true l]; rfl
mutual
theorem isd_dat : ∀ {n : Nat} {t : T}, isd n t = true → T.dat n t = true := fun {n t} h => by
  cases t with
  | int i => cases n <;> rfl
  | str x => cases n <;> exact h
  | tup xs =>
    cases n with
    | zero => cases h
    | succ n =>
      have h' : (decide (xs.length ≤ 1000) && isds n xs) = true := h
      exact isds_dats (n := n) (Bool.and_eq_true_iff.mp h').2
  | non => cases n <;> cases h
  | lst xs => cases n <;> cases h
  | bl b => cases n <;> cases h
  | byt b => cases n <;> cases h
  | dic a b => cases n <;> cases h
  | obj a b c => cases n <;> cases h
  | ref a => cases n <;> cases h
  | scr a => cases n <;> cases h
theorem isds_dats : ∀ {n : Nat} {xs : List T}, isds n xs = true → T.dats n xs = true := fun {n xs} h => by
  cases xs with
  | nil => cases n <;> rfl
  | cons x xs =>
    obtain ⟨h1, h2⟩ := Bool.and_eq_true_iff.mp (show (isd n x && isds n xs) = true from h)
    show (T.dat n x && T.dats n xs) = true
    rw [isd_dat h1, isds_dats h2]; rfl
end
mutual
theorem isd_frz (r : Nat → Option T) : ∀ {n : Nat} {t : T}, isd n t = true → frzW r t = some t := fun {n t} h => by
  cases t with
  | int i => rfl
  | str x => rfl
  | tup xs =>
    cases n with
    | zero => cases h
    | succ n =>
      have h' : (decide (xs.length ≤ 1000) && isds n xs) = true := h
      show (frzWs r xs).map T.tup = _
      rw [isds_frz r (n := n) (Bool.and_eq_true_iff.mp h').2]; rfl
  | non => cases n <;> cases h
  | lst xs => cases n <;> cases h
  | bl b => cases n <;> cases h
  | byt b => cases n <;> cases h
  | dic a b => cases n <;> cases h
  | obj a b c => cases n <;> cases h
  | ref a => cases n <;> cases h
  | scr a => cases n <;> cases h
theorem isds_frz (r : Nat → Option T) : ∀ {n : Nat} {xs : List T}, isds n xs = true → frzWs r xs = some xs := fun {n xs} h => by
  cases xs with
  | nil => rfl
  | cons x xs =>
    obtain ⟨h1, h2⟩ := Bool.and_eq_true_iff.mp (show (isd n x && isds n xs) = true from h)
    show (match frzW r x, frzWs r xs with
      | some y, some ys => some (y :: ys)
      | _, _ => none) = _
    rw [isd_frz r h1, isds_frz r h2]
end
theorem range_items (n : Nat) (x : T) (m : x ∈ (List.range n).map fun (k : Nat) => T.int (0 + k)) : ∃ j : Nat, j < n ∧ x = .int j := by
  obtain ⟨j, m', rfl⟩ := List.mem_map.mp m
  exact ⟨j, List.mem_range.mp m', by simp⟩
theorem r_addl (m : Bool) {xs ys : List T} (h : Nat.ble (xs.length + ys.length) 1000 = true) : opT m .add (.lst xs) (.lst ys) = mkL m (xs ++ ys) :=
  if_pos (Nat.le_trans (Nat.le_of_ble_eq_true h) line1000)
theorem r_addt (m : Bool) {xs ys : List T} (h : Nat.ble (xs.length + ys.length) 1000 = true) : opT m .add (.tup xs) (.tup ys) = ret (.tup (xs ++ ys)) :=
  if_pos (Nat.le_trans (Nat.le_of_ble_eq_true h) line1000)
end Mt

set_option maxHeartbeats 8000000
/-! Mt36: further rules. -/
namespace Mt
open PySem
theorem u_all (m : Bool) (xs : List T) : primT .all m [.lst xs] = bnd (ofO (blsT xs)) fun bs => ret (.bl (bs.all id)) := rfl
theorem u_bls0 : blsT [] = some [] := rfl
theorem u_bls1 (b : Bool) (r : List T) : blsT (.bl b :: r) = (blsT r).map (b :: ·) := rfl
theorem r_lineN {n : Nat} (h : Nat.ble n 1000 = true) : (n ≤ sizeLine) = True := eq_true (Nat.le_trans (Nat.le_of_ble_eq_true h) line1000)
end Mt

set_option maxHeartbeats 8000000
/-! Mt37: loops by their places, triangles, middles. -/
namespace Mt
open PySem
/-- a loop that goes through -/
theorem W_forI {f : T → Env → M (Fl × Env)} {Q : Fl × Env → Sto → Prop} (I : Nat → Env → Sto → Prop) : ∀ (xs : List T) (b : Nat) {σ : Env} {h : Sto},
    (∀ k (hk : k < xs.length) σ h, I (b + k) σ h → W (f xs[k] σ) h fun r h' => r.1 = .nx ∧ I (b + k + 1) r.2 h') → I b σ h → (∀ σ h, I (b + xs.length) σ h → Q (.nx, σ) h) → W (forL (ret ()) f xs σ) h Q
  | [], b, σ, h, _, i, q => (r_ret _).mpr (q _ _ i)
  | x :: xs, b, σ, h, st, i, q => by
    show W (bnd (ret ()) fun _ => bnd (f x σ) _) h _
    rw [bnd_ret, r_bnd]
    refine (st 0 (Nat.zero_lt_succ _) σ h i).mono ?_
    rintro ⟨fl, σ'⟩ h' ⟨e, i'⟩
    cases fl with
    | rt v => cases e
    | nx =>
      show W (forL (ret ()) f xs σ') h' Q
      refine W_forI I xs (b + 1) (fun k hk σ h i => ?_) i' fun σ h i => q σ h ?_
      · have := st (k + 1) (Nat.succ_lt_succ hk) σ h (by rw [show b + (k + 1) = b + 1 + k by omega]; exact i)
        rw [show b + (k + 1) + 1 = b + 1 + k + 1 by omega] at this
        exact this
      · rw [List.length_cons, show b + (xs.length + 1) = b + 1 + xs.length by omega]
        exact i
/-- a range's loop -/
theorem W_forR {f : T → Env → M (Fl × Env)} {Q : Fl × Env → Sto → Prop} {n : Nat} (I : Nat → Env → Sto → Prop) {σ : Env} {h : Sto}
    (st : ∀ k, k < n → ∀ σ h, I k σ h → W (f (.int k) σ) h fun r h' => r.1 = .nx ∧ I (k + 1) r.2 h') (i : I 0 σ h) (q : ∀ σ h, I n σ h → Q (.nx, σ) h) : W (forL (ret ()) f ((List.range n).map fun (k : Nat) => .int (0 + k)) σ) h Q := by
  refine W_forI I _ 0 (fun k hk σ h i => ?_) i fun σ h i => q σ h ?_
  · have hk' : k < n := by simpa using hk
    have e : ((List.range n).map fun (k : Nat) => T.int (0 + k))[k] = .int k := by simp
    rw [e, Nat.zero_add]
    exact st k hk' σ h (by rw [Nat.zero_add] at i; exact i)
  · have e : 0 + ((List.range n).map fun (k : Nat) => T.int (0 + k)).length = n := by simp
    rw [e] at i; exact i
theorem compL_range {f : T → M (Option T)} {n : Nat} (v : Nat → T) (hf : ∀ k, k < n → f (.int k) = ret (some (v k))) : compL (ret ()) f ((List.range n).map fun (k : Nat) => .int (0 + k)) = ret ((List.range n).map v) := by
  have : ∀ l : List Nat, (∀ k ∈ l, k < n) → compL (ret ()) f (l.map fun (k : Nat) => .int (0 + k)) = ret (l.map v) := by
    intro l
    induction l with
    | nil => exact fun _ => rfl
    | cons k l ih =>
      intro hl
      show bnd (ret ()) (fun _ => bnd (f (.int (0 + k))) _) = _
      rw [bnd_ret, Int.zero_add, hf k (hl k List.mem_cons_self), bnd_ret, ih fun k m => hl k (List.mem_cons_of_mem _ m)]
      rfl
  exact this _ fun k m => List.mem_range.mp m
theorem W_compN {f : T → M (Option T)} {n : Nat} {h : Sto} {Q : List T → Sto → Prop} (v : Nat → T) (hf : ∀ k, k < n → f (.int k) = ret (some (v k))) (q : Q ((List.range n).map v) h) : W (compL (ret ()) f ((List.range n).map fun (k : Nat) => .int (0 + k))) h Q := by
  rw [compL_range v hf]; exact (r_ret _).mpr q
/-- a while, by its turns -/
theorem W_whl {c : Env → M Bool} {f : Env → M (Fl × Env)} {Q : Fl × Env → Sto → Prop} (I : Nat → Env → Sto → Prop) : ∀ (n m k : Nat) {σ : Env} {h : Sto}, n < m →
    (∀ j, k ≤ j → j < k + n → ∀ σ h, I j σ h → W (c σ) h fun b h1 => b = true ∧ W (f σ) h1 fun r h2 => r.1 = .nx ∧ I (j + 1) r.2 h2) →
    I k σ h → (∀ σ h, I (k + n) σ h → W (c σ) h fun b h1 => b = false ∧ Q (.nx, σ) h1) → W (whlL c f m σ) h Q
  | 0, m + 1, k, σ, h, hm, st, i, q => by
    show W (bnd (c σ) _) h Q
    rw [r_bnd]
    refine (q σ h i).mono ?_
    rintro b h1 ⟨rfl, q⟩
    exact (r_ret _).mpr q
  | n + 1, m + 1, k, σ, h, hm, st, i, q => by
    show W (bnd (c σ) _) h Q
    rw [r_bnd]
    refine (st k (Nat.le_refl _) (by omega) σ h i).mono ?_
    rintro b h1 ⟨rfl, w⟩
    show W (bnd (f σ) _) h1 Q
    rw [r_bnd]
    refine w.mono ?_
    rintro ⟨fl, σ'⟩ h2 ⟨e, i'⟩
    cases fl with
    | rt v => cases e
    | nx =>
      show W (whlL c f m σ') h2 Q
      exact W_whl I n m (k + 1) (by omega) (fun j h1 h2 => st j (by omega) (by omega)) i' fun σ h i => q σ h (by rw [show k + (n + 1) = k + 1 + n by omega]; exact i)
theorem w_swhl {h : Sto} {Q : Fl × Env → Sto → Prop} (σ : Env) (c : CE) (b : List CS) : W (sWhl c b σ) h Q ↔ W (whlL (fun σ => bnd (c σ) truT) (sSs b) turns σ) h Q := Iff.rfl
/-! middles -/
def mid (a b c : Int) : Int := (isort [a, b, c]).getD 1 0
theorem isort_len (l : List Int) : (isort l).length = l.length := (ssort_perm _ l).length_eq
theorem r_mid (a b c : Int) : L2.atI ((isort [a, b, c]).map T.int) 1 = some (.int (mid a b c)) := by
  unfold mid
  have hl := isort_len [a, b, c]
  revert hl
  generalize isort [a, b, c] = l
  intro hl
  match l, hl with
  | [x, y, z], _ => exact L2.atI_nat (j := 1) rfl
/-! triangles -/
/-- a row -/
def rowT (g : Nat → Int) (n : Nat) : T := .tup ((List.range n).map fun a => .int (g a))
def tri (w : Nat) (g : Nat → Nat → Int) : T := .tup ((List.range w).map fun r => rowT (g r) (r + 1))
def over (g : Nat → Nat → Int) (r a : Nat) : Int := mid (g r a) (g (r + 1) a) (g (r + 1) (a + 1))
def flo (g : Nat → Nat → Int) : Nat → Nat → Nat → Int
  | 0 => g
  | s + 1 => over (flo g s)
def floL (w : Nat) (g : Nat → Nat → Int) (n : Nat) : List T := (List.range n).map fun s => tri (w - s) (flo g s)
theorem at_range {α : Type} (v : Nat → α) {n k : Nat} (h : k < n) : L2.atI ((List.range n).map v) (k : Int) = some (v k) := L2.atI_nat (by
  rw [List.getElem?_map, List.getElem?_range h]; rfl)
theorem at_range1 {α : Type} (v : Nat → α) {n k : Nat} (h : k + 1 < n) : L2.atI ((List.range n).map v) ((k : Int) + 1) = some (v (k + 1)) := at_range v (k := k + 1) h
theorem at_last {α : Type} (v : Nat → α) (n : Nat) : L2.atI ((List.range (n + 1)).map v) (-1) = some (v n) := by
  rw [List.range_succ, List.map_append]
  exact L2.atI_last _ _
theorem len_range {α : Type} (v : Nat → α) (n : Nat) : ((List.range n).map v).length = n := by simp
theorem frz_range {r : Nat → Option T} (v : Nat → T) (n : Nat) (hv : ∀ k, frzW r (v k) = some (v k)) : frzWs r ((List.range n).map v) = some ((List.range n).map v) :=
  frzWs_map r fun p m => by obtain ⟨k, _, rfl⟩ := List.mem_map.mp m; exact hv k
theorem frz_row (r : Nat → Option T) (g : Nat → Int) (n : Nat) : frzW r (rowT g n) = some (rowT g n) := by
  show (frzWs r _).map T.tup = _
  rw [frz_range _ _ fun k => rfl]; rfl
theorem frz_tri (r : Nat → Option T) (w : Nat) (g : Nat → Nat → Int) : frzW r (tri w g) = some (tri w g) := by
  show (frzWs r _).map T.tup = _
  rw [frz_range _ _ fun k => frz_row r _ _]; rfl
theorem tri_congr {w : Nat} {g g' : Nat → Nat → Int} (e : ∀ r a, r < w → a ≤ r → g r a = g' r a) : tri w g = tri w g' := by
  unfold tri rowT
  congr 1
  refine List.map_congr_left fun r m => ?_
  have hr := List.mem_range.mp m
  congr 1
  refine List.map_congr_left fun a m => ?_
  have ha := List.mem_range.mp m
  rw [e r a hr (by omega)]
/-- floors of a part -/
theorem flo_cut (g : Nat → Nat → Int) (x y : Nat) : ∀ s r a, flo (fun r a => g (x + r) (y + a)) s r a = flo g s (x + r) (y + a)
  | 0, r, a => rfl
  | s + 1, r, a => by
    show over (flo (fun r a => g (x + r) (y + a)) s) r a = over (flo g s) (x + r) (y + a)
    unfold over
    rw [flo_cut g x y s, flo_cut g x y s, flo_cut g x y s]
    rfl
/-- a post's number hangs on what is beneath it alone -/
theorem flo_beneath {g g' : Nat → Nat → Int} : ∀ s r a, (∀ d o, d ≤ s → o ≤ d → g (r + d) (a + o) = g' (r + d) (a + o)) → flo g s r a = flo g' s r a
  | 0, r, a, h => h 0 0 (Nat.le_refl _) (Nat.le_refl _)
  | s + 1, r, a, h => by
    show over (flo g s) r a = over (flo g' s) r a
    unfold over
    have e1 : flo g s r a = flo g' s r a := flo_beneath s r a fun d o h1 h2 => h d o (by omega) h2
    have e2 : flo g s (r + 1) a = flo g' s (r + 1) a := flo_beneath s (r + 1) a fun d o h1 h2 => by
      rw [← show r + (d + 1) = r + 1 + d by omega]
      exact h (d + 1) o (by omega) (by omega)
    have e3 : flo g s (r + 1) (a + 1) = flo g' s (r + 1) (a + 1) := flo_beneath s (r + 1) (a + 1) fun d o h1 h2 => by
      rw [← show r + (d + 1) = r + 1 + d by omega, ← show a + (o + 1) = a + 1 + o by omega]
      exact h (d + 1) (o + 1) (by omega) (by omega)
    rw [e1, e2, e3]
end Mt

set_option maxHeartbeats 8000000
/-! Mt38: rules of triangles. -/
namespace Mt
open PySem
theorem r_lentri (m : Bool) (w : Nat) (g : Nat → Nat → Int) : primT .len m [tri w g] = ret (.int w) := by
  show ret (T.int (((List.range w).map fun r => rowT (g r) (r + 1)).length : Nat)) = _
  rw [len_range]
theorem r_lenrow (m : Bool) (g : Nat → Int) (n : Nat) : primT .len m [rowT g n] = ret (.int n) := by
  show ret (T.int (((List.range n).map fun a => T.int (g a)).length : Nat)) = _
  rw [len_range]
theorem r_tri {w : Nat} (g : Nat → Nat → Int) {r : Nat} (h : r < w) : idxT (tri w g) (.int (r : Int)) = ret (rowT (g r) (r + 1)) := by
  show ofO (L2.atI _ (r : Int)) = _
  rw [at_range _ h]; rfl
theorem r_tri1 {w : Nat} (g : Nat → Nat → Int) {r : Nat} (h : r + 1 < w) : idxT (tri w g) (.int ((r : Int) + 1)) = ret (rowT (g (r + 1)) (r + 2)) := r_tri g (r := r + 1) h
theorem r_tri0 {w : Nat} (g : Nat → Nat → Int) (h : 0 < w) : idxT (tri w g) (.int 0) = ret (rowT (g 0) 1) := r_tri g (r := 0) h
theorem r_row {n : Nat} (g : Nat → Int) {a : Nat} (h : a < n) : idxT (rowT g n) (.int (a : Int)) = ret (.int (g a)) := by
  show ofO (L2.atI _ (a : Int)) = _
  rw [at_range _ h]; rfl
theorem r_row1 {n : Nat} (g : Nat → Int) {a : Nat} (h : a + 1 < n) : idxT (rowT g n) (.int ((a : Int) + 1)) = ret (.int (g (a + 1))) := r_row g (a := a + 1) h
theorem r_row0 {n : Nat} (g : Nat → Int) (h : 0 < n) : idxT (rowT g n) (.int 0) = ret (.int (g 0)) := r_row g (a := 0) h
theorem r_isitri (t : Ty) (w : Nat) (g : Nat → Nat → Int) : isiM t (tri w g) = ret (.bl (kdTy .tup t)) := rfl
theorem r_isirow (t : Ty) (w : Nat) (g : Nat → Int) : isiM t (rowT g w) = ret (.bl (kdTy .tup t)) := rfl
theorem r_sort3' (m : Bool) (x y z : Int) : primT .sorted m [.lst [.int x, .int y, .int z]] = mkL m ((isort [x, y, z]).map .int) := rfl
theorem r_mid' (a b c : Int) : L2.atI ((isort [a, b, c]).map T.int) 1 = some (.int (mid a b c)) := r_mid a b c
theorem r_n1 (k : Nat) : ((k : Int) + 1 - 0).toNat = k + 1 := by omega
theorem r_n0 (k : Nat) : ((k : Int) - 0).toNat = k := by omega
theorem u_c1 (k : Nat) : (((k + 1 : Nat) : Int)) = (k : Int) + 1 := by omega
/-- at the last of a list that is told by places -/
theorem frz_lsttri (h : Sto) (w : Nat) (g : Nat → Nat → Nat → Int) (n : Nat) (v : Nat → Nat) : frz 0 h (.lst ((List.range n).map fun s => tri (v s) (g s))) = some (.lst ((List.range n).map fun s => tri (v s) (g s))) := by
  show (frzWs _ _).map T.lst = _
  rw [frz_range _ _ fun k => frz_tri _ _ _]; rfl
/-- a range of so many -/
theorem w_rngN {h : Sto} {Q : List T × M Unit → Sto → Prop} {j : Int} (n : Nat) (e : j = n) (l : n ≤ 1000000) : W (match T.int 0, T.int j with
    | .int i, .int j => if -(2 ^ 62) ≤ i ∧ i < 2 ^ 62 ∧ -(2 ^ 62) ≤ j ∧ j < 2 ^ 62 then ret ((List.range (j - i).toNat).map fun (k : Nat) => T.int (i + k), ret ()) else no
    | _, _ => (no : M (List T × M Unit))) h Q ↔ Q ((List.range n).map fun (k : Nat) => T.int (0 + k), ret ()) h := by
  subst e
  show W (if -(2 ^ 62) ≤ (0 : Int) ∧ (0 : Int) < 2 ^ 62 ∧ -(2 ^ 62) ≤ (n : Int) ∧ (n : Int) < 2 ^ 62 then ret ((List.range ((n : Int) - 0).toNat).map fun (k : Nat) => T.int (0 + k), ret ()) else no) h Q ↔ _
  rw [if_pos (by omega), r_ret, show ((n : Int) - 0).toNat = n by omega]
theorem r_tupr {h : Sto} {Q : T → Sto → Prop} (m : Bool) {n : Nat} {xs : List T} (e : h[n]? = some (.lst xs)) : W (primT .tuple m [.ref n]) h Q ↔ Q (.tup xs) h := by
  show W (bnd (bnd (getO n) _) _) h Q ↔ _
  rw [r_bnd, r_bnd, r_getO e]
  show W (ret xs) h _ ↔ _
  rw [r_ret, r_ret]
theorem range_row (g : Nat → Int) (n : Nat) : T.tup ((List.range n).map fun a => .int (g a)) = rowT g n := rfl
theorem tri_def (w : Nat) (g : Nat → Nat → Int) : T.tup ((List.range w).map fun r => rowT (g r) (r + 1)) = tri w g := rfl
theorem range_snoc {α : Type} (v : Nat → α) (n : Nat) : (List.range n).map v ++ [v n] = (List.range (n + 1)).map v := by
  rw [List.range_succ, List.map_append]; rfl
theorem range_nil {α : Type} (v : Nat → α) : ([] : List α) = (List.range 0).map v := rfl
theorem r_frztri (h : Sto) (w : Nat) (g : Nat → Nat → Int) : frz 0 h (tri w g) = some (tri w g) := frz_tri _ _ _
theorem r_frzrow (h : Sto) (g : Nat → Int) (n : Nat) : frz 0 h (rowT g n) = some (rowT g n) := frz_row _ _ _
/-- what is appended to -/
theorem w_app0 {Q : T → Sto → Prop} {xs : List T} {x : T} (l : xs.length < sizeLine) : W (bmT .append (.ref 0) [x]) [.lst xs] Q ↔ Q .non [.lst (xs ++ [x])] := w_app (h := [O.lst xs]) (n := 0) rfl l
theorem cut_init {α : Type} (v : Nat → α) (n : Nat) : cut ((List.range (n + 1)).map v) none (some (-1)) = (List.range n).map v := by
  unfold cut HT.sIx
  rw [len_range]
  have e : (((-1 : Int) + ((n + 1 : Nat) : Int)).toNat) = n := by omega
  show ((List.map v (List.range (n + 1))).drop 0).take ((if (-1 : Int) < 0 then ((-1 : Int) + ((n + 1 : Nat) : Int)).toNat else _) - 0) = _
  rw [if_pos (by decide), e, List.drop_zero, Nat.sub_zero, List.range_succ, List.map_append]
  rw [List.take_left' (by simp)]
theorem r_cuttri (m : Bool) (w : Nat) (g : Nat → Nat → Int) : slcT m none (some (-1)) (tri (w + 1) g) = ret (tri w g) := by
  show ret (T.tup (cut _ none (some (-1)))) = _
  rw [cut_init]; rfl
theorem r_ittri (w : Nat) (g : Nat → Nat → Int) : itemsT (tri w g) = ret ((List.range w).map fun r => rowT (g r) (r + 1)) := rfl
theorem r_itrow (g : Nat → Int) (n : Nat) : itemsT (rowT g n) = ret ((List.range n).map fun a => .int (g a)) := rfl
theorem r_sttri (w : Nat) (xs : List T) (g : Nat → Nat → Int) : stillT xs (tri w g) = ret () := rfl
theorem r_strow (xs : List T) (g : Nat → Int) (n : Nat) : stillT xs (rowT g n) = ret () := rfl
/-- a numbered list's items -/
theorem enum_at {xs : List T} {k : Nat} (h : k < (xs.zipIdx.map fun p => T.tup [.int (0 + (p.2 : Nat)), p.1]).length) : (xs.zipIdx.map fun p => T.tup [.int (0 + (p.2 : Nat)), p.1])[k] = .tup [.int k, xs[k]'(by simpa using h)] := by
  simp
theorem W_forE {f : T → Mt.Env → M (Fl × Mt.Env)} {Q : Fl × Mt.Env → Sto → Prop} {n : Nat} (v : Nat → T) (I : Nat → Mt.Env → Sto → Prop) {σ : Mt.Env} {h : Sto}
    (st : ∀ k, k < n → ∀ σ h, I k σ h → W (f (.tup [.int k, v k]) σ) h fun r h' => r.1 = .nx ∧ I (k + 1) r.2 h') (i : I 0 σ h) (q : ∀ σ h, I n σ h → Q (.nx, σ) h) : W (forL (ret ()) f ((((List.range n).map v).zipIdx).map fun p => T.tup [.int (0 + (p.2 : Nat)), p.1]) σ) h Q := by
  refine W_forI I _ 0 (fun k hk σ h i => ?_) i fun σ h i => q σ h ?_
  · have hk' : k < n := by simpa using hk
    rw [enum_at hk, Nat.zero_add]
    have e : ((List.range n).map v)[k]'(by simpa using hk') = v k := by simp
    rw [e]
    exact st k hk' σ h (by rw [Nat.zero_add] at i; exact i)
  · have e : 0 + ((((List.range n).map v).zipIdx).map fun p => T.tup [.int (0 + (p.2 : Nat)), p.1]).length = n := by simp
    rw [e] at i; exact i
theorem W_forV {f : T → Mt.Env → M (Fl × Mt.Env)} {Q : Fl × Mt.Env → Sto → Prop} {n : Nat} (v : Nat → T) (I : Nat → Mt.Env → Sto → Prop) {σ : Mt.Env} {h : Sto}
    (st : ∀ k, k < n → ∀ σ h, I k σ h → W (f (v k) σ) h fun r h' => r.1 = .nx ∧ I (k + 1) r.2 h') (i : I 0 σ h) (q : ∀ σ h, I n σ h → Q (.nx, σ) h) : W (forL (ret ()) f ((List.range n).map v) σ) h Q := by
  refine W_forI I _ 0 (fun k hk σ h i => ?_) i fun σ h i => q σ h ?_
  · have hk' : k < n := by simpa using hk
    have e : ((List.range n).map v)[k] = v k := by simp
    rw [e, Nat.zero_add]
    exact st k hk' σ h (by rw [Nat.zero_add] at i; exact i)
  · have e : 0 + ((List.range n).map v).length = n := by simp
    rw [e] at i; exact i
theorem r_atlast (v : Nat → T) (n : Nat) : L2.atI ((List.range (n + 1)).map v) (-1) = some (v n) := at_last v n
/-- of no heap, whatever stands there -/
def Pln (t : T) : Prop := ∀ r, frzW r t = some t
theorem Pln.tri (w : Nat) (g : Nat → Nat → Int) : Pln (tri w g) := fun r => frz_tri r w g
theorem Pln.row (g : Nat → Int) (n : Nat) : Pln (rowT g n) := fun r => frz_row r g n
theorem Pln.int (i : Int) : Pln (.int i) := fun _ => rfl
theorem Pln.enc (p : Pl) : Pln (enc p) := fun _ => rfl
theorem Pln.list {xs : List T} (h : ∀ x ∈ xs, Pln x) (r : Nat → Option T) : frzWs r xs = some xs := frzWs_map r fun p m => h p m r
theorem Pln.tup {xs : List T} (h : ∀ x ∈ xs, Pln x) : Pln (.tup xs) := fun r => by
  show (frzWs r xs).map T.tup = _
  rw [Pln.list h]; rfl
theorem Pln.lst {xs : List T} (h : ∀ x ∈ xs, Pln x) : Pln (.lst xs) := fun r => by
  show (frzWs r xs).map T.lst = _
  rw [Pln.list h]; rfl
theorem Pln.rangeM {v : Nat → T} {n : Nat} (h : ∀ k, Pln (v k)) : ∀ x ∈ (List.range n).map v, Pln x := fun x m => by
  obtain ⟨k, _, rfl⟩ := List.mem_map.mp m
  exact h k
theorem Pln.obj {c : Nat} {fs : List Nat} {xs : List T} (h : ∀ x ∈ xs, Pln x) : Pln (.obj c fs xs) := fun r => by
  show (frzWs r xs).map (T.obj c fs) = _
  rw [Pln.list h]; rfl
theorem Pln.fr {t : T} (p : Pln t) (n : Nat) (h : Sto) : frz n h t = some t := p _
theorem Pln.ref0 {xs : List T} (h : ∀ x ∈ xs, Pln x) : frz 0 [.lst xs] (.ref 0) = some (.lst xs) := by
  show (frzWs (rUp 0 [.lst xs] (r0 0)) xs).map T.lst = _
  rw [Pln.list h]; rfl
theorem Pln.args {xs : List T} (h : ∀ x ∈ xs, Pln x) : (frzWs (r0 0) xs).isSome = true := by
  rw [Pln.list h]; rfl
theorem Pln.nilA : ∀ x ∈ ([] : List T), Pln x := fun _ h => nomatch h
theorem Pln.consA {x : T} {xs : List T} (p : Pln x) (h : ∀ x ∈ xs, Pln x) : ∀ y ∈ x :: xs, Pln y := fun y m => by
  rcases List.mem_cons.mp m with rfl | m
  · exact p
  · exact h y m
theorem Pln.floL (w : Nat) (g : Nat → Nat → Int) (n : Nat) : ∀ x ∈ floL w g n, Pln x := Pln.rangeM fun _ => Pln.tri _ _
theorem compL_rangeU {f : T → M (Option T)} {n : Nat} (u v : Nat → T) (hf : ∀ k, k < n → f (u k) = ret (some (v k))) : compL (ret ()) f ((List.range n).map u) = ret ((List.range n).map v) := by
  have : ∀ l : List Nat, (∀ k ∈ l, k < n) → compL (ret ()) f (l.map u) = ret (l.map v) := by
    intro l
    induction l with
    | nil => exact fun _ => rfl
    | cons k l ih =>
      intro hl
      show bnd (ret ()) (fun _ => bnd (f (u k)) _) = _
      rw [bnd_ret, hf k (hl k List.mem_cons_self), bnd_ret, ih fun k m => hl k (List.mem_cons_of_mem _ m)]
      rfl
  exact this _ fun k m => List.mem_range.mp m
theorem W_compU {f : T → M (Option T)} {n : Nat} {h : Sto} {Q : List T → Sto → Prop} (u v : Nat → T) (hf : ∀ k, k < n → f (u k) = ret (some (v k))) (q : Q ((List.range n).map v) h) : W (compL (ret ()) f ((List.range n).map u)) h Q := by
  rw [compL_rangeU u v hf]; exact (r_ret _).mpr q
theorem range_const (b : T) (n : Nat) : (List.range n).map (fun _ => b) = List.replicate n b := by
  rw [List.map_const', List.length_range]
/-- an instance that nothing changes any more -/
theorem make_frozen {F : Type} (S : Sh F) {m c k : Nat} {ks : List Nat} {as ws : List T} {f : F} {fs : List Nat} (e1 : S.P.init c = some f) (e2 : S.P.frozen c = true) (e3 : (frzWs (r0 0) as).isSome = true)
    (w : W (bnd (bindA S.P f k ks (.ref 0 :: as)) (callS S m f)) [O.ins c [] []] fun v h => v = .non ∧ ∃ vs, h[0]? = some (.ins c fs vs) ∧ frzWs (rUp 0 h (r0 0)) vs = some ws) : makeS S (m + 1) c k ks as = ret (.obj c fs ws) := by
  obtain ⟨v, h, e, rfl, vs, e4, e5⟩ := w
  unfold makeS
  rw [e1]
  show (if S.P.frozen c = true then (if (frzWs (r0 0) as).isSome = true then lift (made c (bnd (bindA S.P f k ks (.ref 0 :: as)) (callS S m f) [O.ins c [] []])) else no) else _) = _
  rw [if_pos e2, if_pos e3, e]
  show lift (match h[0]? with
    | some (O.ins d fs vs) => (match frzWs (rUp 0 h (r0 0)) vs with
      | some ws => if d = c then .ok (.obj c fs ws) [] else .no
      | none => .no)
    | _ => .no) = _
  rw [e4]
  show lift (match frzWs (rUp 0 h (r0 0)) vs with
      | some ws => if c = c then .ok (.obj c fs ws) [] else .no
      | none => .no) = _
  rw [e5]
  show lift (if c = c then .ok (.obj c fs ws) [] else .no) = _
  rw [if_pos rfl]
  rfl
theorem r_put0 (f : Nat) (v : T) : putV f v [] [] = ([f], [v]) := rfl
theorem r_put10 (v w : T) : putV 0 v [1] [w] = ([1, 0], [w, v]) := rfl
/-- a ground -/
def grd (w : Nat) (g : Nat → Nat → Int) : T := .obj 0 [1, 0] [.int w, tri w g]
theorem r_fld0 (w : Nat) (g : Nat → Nat → Int) : fldT 0 (grd w g) = ret (tri w g) := rfl
theorem r_fld1 (w : Nat) (g : Nat → Nat → Int) : fldT 1 (grd w g) = ret (.int w) := rfl
theorem r_isgrd (w : Nat) (g : Nat → Nat → Int) : isiM (.cls 0) (grd w g) = ret (.bl true) := rfl
theorem r_clsgrd (w : Nat) (g : Nat → Nat → Int) : clsT (grd w g) = ret 0 := rfl
theorem Pln.grd (w : Nat) (g : Nat → Nat → Int) : Pln (grd w g) := Pln.obj (Pln.consA (Pln.int _) (Pln.consA (Pln.tri _ _) Pln.nilA))
theorem cut_mid {α : Type} (v : Nat → α) {n a k : Nat} (h : a + k + 1 ≤ n) : cut ((List.range n).map v) (some (a : Int)) (some ((a : Int) + k + 1)) = (List.range (k + 1)).map fun i => v (a + i) := by
  unfold cut
  rw [len_range, show (a : Int) + k + 1 = ((a + k + 1 : Nat) : Int) by omega, HT.sIx_nat, HT.sIx_nat, Nat.min_eq_left h, Nat.min_eq_left (show a ≤ n by omega)]
  apply List.ext_getElem
  · simp; omega
  · intro i h1 h2
    simp
theorem r_cutrow (m : Bool) (g : Nat → Int) {n a k : Nat} (h : a + k + 1 ≤ n) : slcT m (some (a : Int)) (some ((a : Int) + k + 1)) (rowT g n) = ret (rowT (fun i => g (a + i)) (k + 1)) := by
  show ret (T.tup (cut _ _ _)) = _
  rw [cut_mid _ h]; rfl
end Mt

set_option maxHeartbeats 8000000
/-! Mt39: repr of numbers, and of tuples and lists of such. -/
namespace Mt
open PySem PyProof
theorem sok_app (x y : Str) (h1 : PyData.strOk x = true) (h2 : PyData.strOk y = true) : PyData.strOk (x ++ y) = true := by
  show ((x.cps ++ y.cps).all _) = true
  rw [Array.all_append]
  show (x.cps.all _ && y.cps.all _) = true
  rw [show x.cps.all (fun x => decide (x < 0x110000)) = true from h1, show y.cps.all (fun x => decide (x < 0x110000)) = true from h2]; rfl
theorem sok_of (s : String) : PyData.strOk (Str.ofString s) = true := by
  rw [Str.ofString_eq_toList]
  show ((s.toList.map Char.toNat).toArray.all _) = true
  rw [List.all_toArray, List.all_map, List.all_eq_true]
  intro c _
  show decide (c.toNat < 0x110000) = true
  rw [decide_eq_true_eq]
  have := c.valid
  rcases this with h | h
  · show c.val.toNat < _; omega
  · show c.val.toNat < _; omega
theorem sok_from : ∀ (ts : List Str) (k : Nat) (acc : Str), PyData.strOk acc = true → (∀ t ∈ ts, PyData.strOk t = true) → PyData.strOk (textFrom k acc ts) = true
  | [], k, acc, h, _ => h
  | t :: ts, k, acc, h, ht => sok_from ts (k + 1) _ (sok_app _ _ (sok_app _ _ h (sok_of _)) (ht t List.mem_cons_self)) fun u m => ht u (List.mem_cons_of_mem _ m)
theorem sok_list (ts : List Str) (ht : ∀ t ∈ ts, PyData.strOk t = true) : PyData.strOk (listText ts) = true := sok_app _ _ (sok_from ts 0 _ (sok_of _) ht) (sok_of _)
theorem sok_join : ∀ (ts : List Str), (∀ t ∈ ts, PyData.strOk t = true) → PyData.strOk (Str.join ", " ts) = true
  | [], _ => by unfold Str.join; decide +kernel
  | [x], h => h x List.mem_cons_self
  | x :: y :: r, h => sok_app _ _ (sok_app _ _ (h x List.mem_cons_self) (sok_of _)) (sok_join (y :: r) fun t m => h t (List.mem_cons_of_mem _ m))
theorem sok_tup (ts : List Str) (ht : ∀ t ∈ ts, PyData.strOk t = true) : PyData.strOk (tupleText ts) = true := sok_app _ _ (sok_app _ _ (sok_of _) (sok_join ts ht)) (sok_of _)
theorem list_len (ts : List Str) : (listText ts).length ≤ piled ts + 4 := by
  cases ts with
  | nil => decide
  | cons t r =>
    have h := textFrom_length_pos r 1 (("[" : Str) ++ (if (0 : Nat) > 0 then ", " else "" : String) ++ t) (Nat.succ_pos 0)
    have hX : (listText (t :: r)).length = (textFrom 0 "[" (t :: r)).length + 1 := by
      unfold listText
      rw [strLen_append]; rfl
    have hY : textFrom 0 "[" (t :: r) = textFrom 1 (("[" : Str) ++ (if (0 : Nat) > 0 then ", " else "" : String) ++ t) r := rfl
    rw [hX, hY, h, strLen_append, strLen_append, piled_cons]
    have e1 : (("[" : String) : Str).length = 1 := rfl
    have e2 : ((if (0 : Nat) > 0 then ", " else "" : String) : Str).length = 0 := rfl
    rw [e1, e2]
    omega
theorem tup_len (ts : List Str) : (tupleText ts).length ≤ piled ts + 4 := by
  unfold tupleText
  rw [strLen_append, strLen_append]
  have e1 : ((("(" : String) : Str)).length = 1 := rfl
  have e3 : (((if ts.length == 1 then ",)" else ")" : String) : Str)).length ≤ 2 := by split <;> decide
  cases ts with
  | nil =>
    have : (Str.join ", " []).length = 0 := rfl
    omega
  | cons t r =>
    have := join_length_add (t :: r) (by simp)
    omega
structure Rp (n B : Nat) (t : T) : Prop where
  h : ∃ d, t.py = some d ∧ d.showable = true ∧ d.hasDict = false ∧ d.canLay0 = true ∧ d.depth ≤ n ∧ d.shown.length ≤ B ∧ PyData.strOk d.shown = true
theorem Rp.mono {n m B C : Nat} {t : T} (r : Rp n B t) (h1 : n ≤ m) (h2 : B ≤ C) : Rp m C t := by
  obtain ⟨d, a, b, c, e, f, g, h⟩ := r.h
  exact ⟨d, a, b, c, e, by omega, by omega, h⟩
theorem nat_len {m k : Nat} (hk : 0 < k) (h : m < 10 ^ k) : (Str.ofString (toString m)).length ≤ k := by
  have := Rows.toString_length_le (v := (m : Int)) (by omega) hk (by exact_mod_cast h)
  exact this
theorem int_len {i : Int} {k : Nat} (hk : 0 < k) (h : i.natAbs < 10 ^ k) : (Str.ofString (toString i)).length ≤ k + 1 := by
  cases i with
  | ofNat m => exact Nat.le_succ_of_le (nat_len hk h)
  | negSucc m =>
    have e : (toString (Int.negSucc m)) = "-" ++ toString (m + 1) := rfl
    have := nat_len (m := m + 1) hk h
    rw [Rows.ofString_length] at this ⊢
    rw [e, String.toList_append, List.length_append]
    have : "-".toList.length = 1 := rfl
    omega
theorem Rp.int {i : Int} (h : i.natAbs < 10 ^ 60) : Rp 0 61 (.int i) := by
  refine ⟨.int i, rfl, ?_, rfl, rfl, Nat.le_refl _, int_len (k := 60) (by decide) h, sok_of _⟩
  show decide (i.natAbs.log2 < 1920) = true
  rw [decide_eq_true_eq]
  by_cases h0 : i.natAbs = 0
  · rw [h0]; decide
  · exact (Nat.log2_lt h0).mpr (Nat.lt_trans h (by decide))
theorem Rps {n B : Nat} : ∀ {xs : List T}, (∀ x ∈ xs, Rp n B x) → ∃ ds, T.pys xs = some ds ∧ PyData.showableAll ds = true ∧ PyData.hasDictAll ds = false ∧ PyData.canLayAll0 ds = true ∧ PyData.depthAll ds ≤ n ∧ piled (PyData.shownAll ds) ≤ (B + 2) * xs.length ∧ ∀ s ∈ PyData.shownAll ds, PyData.strOk s = true
  | [], _ => ⟨[], rfl, rfl, rfl, rfl, Nat.zero_le _, Nat.zero_le _, fun _ m => nomatch m⟩
  | x :: xs, h => by
    obtain ⟨d, a, b, c, e, f, g, k⟩ := (h x List.mem_cons_self).h
    obtain ⟨ds, a', b', c', e', f', g', k'⟩ := Rps fun y m => h y (List.mem_cons_of_mem _ m)
    refine ⟨d :: ds, ?_, ?_, ?_, ?_, ?_, ?_, ?_⟩
    · show (match T.py x, T.pys xs with
        | some d, some ds => some (d :: ds)
        | _, _ => none) = _
      rw [a, a']
    · show (d.showable && PyData.showableAll ds) = true
      rw [b, b']; rfl
    · show (d.hasDict || PyData.hasDictAll ds) = false
      rw [c, c']; rfl
    · show (d.canLay0 && PyData.canLayAll0 ds) = true
      rw [e, e']; rfl
    · show max d.depth (PyData.depthAll ds) ≤ n
      omega
    · show piled (d.shown :: PyData.shownAll ds) ≤ _
      rw [piled_cons, List.length_cons, Nat.mul_succ]
      omega
    · intro s m
      rcases List.mem_cons.mp (show s ∈ d.shown :: PyData.shownAll ds from m) with rfl | m
      · exact k
      · exact k' s m
theorem Rp.tup {n B : Nat} {xs : List T} (h : ∀ x ∈ xs, Rp n B x) : Rp (n + 1) ((B + 2) * xs.length + 4) (.tup xs) := by
  obtain ⟨ds, a, b, c, e, f, g, k⟩ := Rps h
  refine ⟨.tuple ds, by show (T.pys xs).map _ = _; rw [a]; rfl, b, c, e, Nat.succ_le_succ f, ?_, sok_tup _ k⟩
  have := tup_len (PyData.shownAll ds)
  show (tupleText (PyData.shownAll ds)).length ≤ _
  omega
theorem Rp.lst {n B : Nat} {xs : List T} (h : ∀ x ∈ xs, Rp n B x) : Rp (n + 1) ((B + 2) * xs.length + 4) (.lst xs) := by
  obtain ⟨ds, a, b, c, e, f, g, k⟩ := Rps h
  refine ⟨.list ds, by show (T.pys xs).map _ = _; rw [a]; rfl, b, c, e, Nat.succ_le_succ f, ?_, sok_list _ k⟩
  have := list_len (PyData.shownAll ds)
  show (listText (PyData.shownAll ds)).length ≤ _
  omega
theorem Rp.run {n B : Nat} {t : T} (r : Rp n B t) (h1 : n ≤ 64) (h2 : B ≤ 1000000) (m : Bool) : ∃ s, primT .repr m [t] = ret (T.str s) ∧ T.dat 64 (T.str s) = true := by
  obtain ⟨d, a, b, c, e, f, g, k⟩ := r.h
  refine ⟨d.shown, ?_, k⟩
  have l : (1000000 : Nat) ≤ sizeLine := by decide +kernel
  have s := dat_shaped (n := 64) (Nat.le_refl _) e (by omega)
  show (match t.py with
    | some d => if d.showable && (!d.hasDict && (SeqAt.shaped d && decide (d.shown.length ≤ sizeLine))) then ret (T.str d.shown) else no
    | none => no) = _
  rw [a]
  show (if (d.showable && (!d.hasDict && (SeqAt.shaped d && decide (d.shown.length ≤ sizeLine)))) = true then ret (T.str d.shown) else no) = _
  rw [b, c, s, decide_eq_true (by omega)]
  rfl
/-! lists told by a map -/
theorem compL_map {α : Type} {f : T → M (Option T)} (u v : α → T) : ∀ {l : List α}, (∀ x ∈ l, f (u x) = ret (some (v x))) → compL (ret ()) f (l.map u) = ret (l.map v)
  | [], _ => rfl
  | x :: l, h => by
    show bnd (ret ()) (fun _ => bnd (f (u x)) _) = _
    rw [bnd_ret, h x List.mem_cons_self, bnd_ret, compL_map u v fun y m => h y (List.mem_cons_of_mem _ m)]
    rfl
theorem W_compM {α : Type} {f : T → M (Option T)} {l : List α} {h : Sto} {Q : List T → Sto → Prop} (u v : α → T) (hf : ∀ x ∈ l, f (u x) = ret (some (v x))) (q : Q (l.map v) h) : W (compL (ret ()) f (l.map u)) h Q := by
  rw [compL_map u v hf]; exact (r_ret _).mpr q
theorem compL_filt {α : Type} {f : T → M (Option T)} (u : α → T) (c : α → Bool) : ∀ {l : List α}, (∀ x ∈ l, f (u x) = ret (if c x then some (u x) else none)) → compL (ret ()) f (l.map u) = ret ((l.filter c).map u)
  | [], _ => rfl
  | x :: l, h => by
    show bnd (ret ()) (fun _ => bnd (f (u x)) _) = _
    rw [bnd_ret, h x List.mem_cons_self, bnd_ret, compL_filt u c fun y m => h y (List.mem_cons_of_mem _ m), List.filter_cons]
    cases c x <;> rfl
theorem W_compF {α : Type} {f : T → M (Option T)} {l : List α} {h : Sto} {Q : List T → Sto → Prop} (u : α → T) (c : α → Bool) (hf : ∀ x ∈ l, f (u x) = ret (if c x then some (u x) else none)) (q : Q ((l.filter c).map u) h) : W (compL (ret ()) f (l.map u)) h Q := by
  rw [compL_filt u c hf]; exact (r_ret _).mpr q
end Mt

set_option maxHeartbeats 8000000
/-! Mt40: dips beside other things. -/
namespace Mt
open PySem
abbrev jr (a b c : Int) : O := .lst [.int a, .int b, .int c]
/-- all that stands there is closed -/
def Cl (h : Sto) : Prop := ∀ o ∈ h, ∀ n, cloO n o = true
theorem Cl.jr (a b c : Int) : ∀ n, cloO n (jr a b c) = true := fun _ => rfl
theorem Cl.nil : Cl [] := fun _ m => nomatch m
theorem Cl.all {h : Sto} (c : Cl h) (n : Nat) : h.all (cloO n) = true := List.all_eq_true.mpr fun o m => c o m n
theorem Cl.set {h : Sto} (c : Cl h) (n : Nat) {o : O} (p : ∀ n, cloO n o = true) : Cl (h.set n o) := fun u m => by
  rcases List.mem_or_eq_of_mem_set m with m | m
  · exact c u m
  · rw [m]; exact p
theorem Cl.push {h : Sto} (c : Cl h) {o : O} (p : ∀ n, cloO n o = true) : Cl (h ++ [o]) := fun u m => by
  rcases List.mem_append.mp m with m | m
  · exact c u m
  · rw [List.mem_singleton.mp m]; exact p
theorem Cl.list {xs : List T} (h : ∀ x ∈ xs, Pln x) : ∀ n, cloO n (.lst xs) = true := fun n => by
  show (frzWs (r0 n) xs).isSome = true
  rw [Pln.list h]; rfl
section
variable {F : Type} {S : Sh F}
theorem call_shared2 {f : F} {ar nl : Nat} {b : (F → List T → M T) → (Nat → Nat → List Nat → List T → M T) → List CS} (I : Is S f ar nl .shared b) {h : Sto} {as : List T} {m : Nat} {Q : T → Sto → Prop}
    (w : W (runS ar nl (b (callS S (m + 1)) (makeS S (m + 1))) as) h fun v h' => ∃ v', frz h.length h' v = some v' ∧ Cl (h'.take h.length) ∧ Q v' (h'.take h.length)) : W (callS S (m + 2) f as) h Q := by
  rw [callS_s, I.e3, I.e1, I.e2, I.e4]
  obtain ⟨v, h', e, v', e1, j, q⟩ := w
  refine ⟨v', h'.take h.length, ?_, q⟩
  show fin h.length (runS ar nl _ as h) = _
  rw [e]
  show (match frz h.length h' v with
    | some v' => if (h'.take h.length).all (cloO h.length) then R.ok v' (h'.take h.length) else .no
    | none => .no) = _
  rw [e1]
  exact if_pos (j.all _)
theorem set_take (h : Sto) (n : Nat) (o : O) : (h.set n o).take h.length = h.set n o := by
  have : (h.set n o).length = h.length := List.length_set
  rw [← this, List.take_length]
theorem dip2 {dip : F} (I : Is S dip 2 2 .shared fun _ _ => dipS) {h : Sto} (j : Cl h) {n : Nat} {a b c : Int} (w : h[n]? = some (jr a b c)) {m : Int} (h0 : 0 < m) (h1 : m < 2 ^ 256) {k : Nat} (hk : 2 ≤ k) :
    W (callS S k dip [.ref n, .int m]) h fun v h' => ∃ i a b c : Int, v = .int i ∧ 0 ≤ i ∧ i < m ∧ h' = h.set n (jr a b c) := by
  obtain ⟨k, rfl⟩ : ∃ m, k = m + 2 := ⟨k - 2, by omega⟩
  refine call_shared2 I ((w_runS rfl).mpr ((dip_run w h0 h1).mono ?_))
  intro r h' ⟨i, d', s', k', e1, i0, i1, e⟩
  rw [e1, e, set_take]
  exact ⟨.int i, rfl, j.set n (Cl.jr _ _ _), i, d', s', k', rfl, i0, i1, rfl⟩
/-- the jar that was dipped into -/
theorem jar_set {h : Sto} {n : Nat} {o p : O} (w : h[n]? = some p) : (h.set n o)[n]? = some o := by
  rw [List.getElem?_set_self (List.getElem?_eq_some_iff.mp w).1]
/-- such a store with a jar -/
structure Jr (h : Sto) (n : Nat) : Prop where
  cl : Cl h
  at_ : ∃ a b c, h[n]? = some (jr a b c)
theorem Jr.lt {h : Sto} {n : Nat} (j : Jr h n) : n < h.length := by
  obtain ⟨a, b, c, e⟩ := j.at_
  exact (List.getElem?_eq_some_iff.mp e).1
theorem Jr.set {h : Sto} {n : Nat} (j : Jr h n) (a b c : Int) : Jr (h.set n (jr a b c)) n := by
  obtain ⟨x, y, z, e⟩ := j.at_
  exact ⟨j.cl.set n (Cl.jr _ _ _), a, b, c, jar_set e⟩
theorem Jr.push {h : Sto} {n : Nat} (j : Jr h n) {o : O} (p : ∀ n, cloO n o = true) : Jr (h ++ [o]) n := by
  obtain ⟨x, y, z, e⟩ := j.at_
  exact ⟨j.cl.push p, x, y, z, by rw [List.getElem?_append_left (List.getElem?_eq_some_iff.mp e).1, e]⟩
/-- the jar alone may differ -/
def Mo (n : Nat) (h h' : Sto) : Prop := h' = h ∨ ∃ a b c, h' = h.set n (jr a b c)
theorem Mo.refl (n : Nat) (h : Sto) : Mo n h h := Or.inl rfl
theorem Mo.trans {n : Nat} {h h1 h2 : Sto} (a : Mo n h h1) (b : Mo n h1 h2) : Mo n h h2 := by
  rcases a with rfl | ⟨x, y, z, rfl⟩
  · exact b
  · rcases b with rfl | ⟨x', y', z', rfl⟩
    · exact Or.inr ⟨x, y, z, rfl⟩
    · exact Or.inr ⟨x', y', z', by rw [List.set_set]⟩
theorem Mo.len {n : Nat} {h h1 : Sto} (a : Mo n h h1) : h1.length = h.length := by
  rcases a with rfl | ⟨x, y, z, rfl⟩
  · rfl
  · exact List.length_set
theorem Mo.jr {n : Nat} {h h1 : Sto} (j : Jr h n) (a : Mo n h h1) : Jr h1 n := by
  rcases a with rfl | ⟨x, y, z, rfl⟩
  · exact j
  · exact j.set x y z
theorem Mo.ne {n m : Nat} {h h1 : Sto} (a : Mo n h h1) (e : m ≠ n) : h1[m]? = h[m]? := by
  rcases a with rfl | ⟨x, y, z, rfl⟩
  · rfl
  · exact List.getElem?_set_ne (Ne.symm e)
theorem dip3 {dip : F} (I : Is S dip 2 2 .shared fun _ _ => dipS) {h : Sto} {n : Nat} (j : Jr h n) {m : Int} (h0 : 0 < m) (h1 : m < 2 ^ 256) {k : Nat} (hk : 2 ≤ k) :
    W (callS S k dip [.ref n, .int m]) h fun v h' => ∃ i : Int, v = .int i ∧ 0 ≤ i ∧ i < m ∧ Jr h' n ∧ Mo n h h' := by
  obtain ⟨a, b, c, w⟩ := j.at_
  refine (dip2 I j.cl w h0 h1 hk).mono ?_
  rintro v h' ⟨i, a', b', c', rfl, i0, i1, rfl⟩
  exact ⟨i, rfl, i0, i1, j.set a' b' c', Or.inr ⟨a', b', c', rfl⟩⟩
end
end Mt

set_option maxHeartbeats 8000000
/-! Mt41: places among places. -/
namespace Mt
open PySem
theorem in_enc (p : Pl) (ps : List Pl) : cmpT .in_ (enc p) (.tup (ps.map enc)) = some (decide (p ∈ ps)) := by
  rw [u_int rfl (dats_enc 62 ps)]
  congr 1
  by_cases h : p ∈ ps
  · rw [decide_eq_true h, decide_eq_true (mem_enc.mpr h)]
  · rw [decide_eq_false h, decide_eq_false (fun m => h (mem_enc.mp m))]
theorem nin_enc (p : Pl) (ps : List Pl) : cmpT .nin (enc p) (.tup (ps.map enc)) = some (!decide (p ∈ ps)) := by
  show (cmpT .in_ (enc p) (.tup (ps.map enc))).map (!·) = _
  rw [in_enc]; rfl
theorem in_e (x y : Int) (ps : List Pl) : cmpT .in_ (.tup [.int x, .int y]) (.tup (ps.map enc)) = some (decide ((x, y) ∈ ps)) := in_enc (x, y) ps
theorem nin_e (x y : Int) (ps : List Pl) : cmpT .nin (.tup [.int x, .int y]) (.tup (ps.map enc)) = some (!decide ((x, y) ∈ ps)) := nin_enc (x, y) ps
theorem ne_same (x : T) (h : T.dat 64 x = true) : cmpT .ne x x = some false := by
  rw [u_ned h h, decide_eq_true rfl]; rfl
theorem eq_same (x : T) (h : T.dat 64 x = true) : cmpT .eq x x = some true := by
  rw [u_eqd h h, decide_eq_true rfl]
theorem r_repl (m : Bool) (x : T) : opT m .mul (.lst [x]) (.int 3) = mkL m [x, x, x] := by
  cases m <;> rfl
theorem at_mem {α : Type} (u : α → T) (l : List α) {i : Int} (h0 : 0 ≤ i) (h1 : i < l.length) : ∃ x ∈ l, L2.atI (l.map u) i = some (u x) := by
  obtain ⟨j, rfl⟩ : ∃ j : Nat, i = j := ⟨i.toNat, by omega⟩
  have hj : j < l.length := by omega
  refine ⟨l[j], List.getElem_mem hj, L2.atI_nat ?_⟩
  rw [List.getElem?_map, List.getElem?_eq_getElem hj]; rfl
/-- a loop over what passes: each item alone is known -/
theorem W_forAll {f : T → Mt.Env → M (Fl × Mt.Env)} {Q : Fl × Mt.Env → Sto → Prop} (I : Mt.Env → Sto → Prop) : ∀ {xs : List T} {σ : Mt.Env} {h : Sto},
    (∀ x ∈ xs, ∀ σ h, I σ h → W (f x σ) h fun r h' => r.1 = .nx ∧ I r.2 h') → I σ h → (∀ σ h, I σ h → Q (.nx, σ) h) → W (forL (ret ()) f xs σ) h Q
  | [], σ, h, _, i, q => (r_ret _).mpr (q _ _ i)
  | x :: xs, σ, h, st, i, q => by
    show W (bnd (ret ()) fun _ => bnd (f x σ) _) h _
    rw [bnd_ret, r_bnd]
    refine (st x List.mem_cons_self σ h i).mono ?_
    rintro ⟨fl, σ'⟩ h' ⟨e, i'⟩
    cases fl with
    | rt v => cases e
    | nx => exact W_forAll I (fun y m => st y (List.mem_cons_of_mem _ m)) i' q
/-- the same, with a look at the list that is walked -/
theorem W_forAllG {g : M Unit} {f : T → Mt.Env → M (Fl × Mt.Env)} {Q : Fl × Mt.Env → Sto → Prop} (I : Mt.Env → Sto → Prop) (hg : ∀ σ h, I σ h → g h = .ok () h) : ∀ {xs : List T} {σ : Mt.Env} {h : Sto},
    (∀ x ∈ xs, ∀ σ h, I σ h → W (f x σ) h fun r h' => r.1 = .nx ∧ I r.2 h') → I σ h → (∀ σ h, I σ h → Q (.nx, σ) h) → W (forL g f xs σ) h Q
  | [], σ, h, _, i, q => by
    show W (bnd g fun _ => ret (.nx, σ)) h Q
    rw [r_bnd]
    exact W.of (hg σ h i) ((r_ret _).mpr (q _ _ i))
  | x :: xs, σ, h, st, i, q => by
    show W (bnd g fun _ => bnd (f x σ) _) h _
    rw [r_bnd]
    refine W.of (hg σ h i) ?_
    rw [r_bnd]
    refine (st x List.mem_cons_self σ h i).mono ?_
    rintro ⟨fl, σ'⟩ h' ⟨e, i'⟩
    cases fl with
    | rt v => cases e
    | nx => exact W_forAllG I hg (fun y m => st y (List.mem_cons_of_mem _ m)) i' q
end Mt

set_option maxHeartbeats 8000000
/-! Mt42: a run beside a jar. -/
namespace Mt
open PySem
/-- what stood before stands, but for the jar -/
structure Sv (h h3 : Sto) (n : Nat) : Prop where
  j : Jr h3 n
  le : h.length ≤ h3.length
  lt : n < h.length
  mo : Mo n h (h3.take h.length)
theorem Sv.refl {h : Sto} {n : Nat} (j : Jr h n) : Sv h h n := ⟨j, Nat.le_refl _, j.lt, by rw [List.take_length]; exact Mo.refl _ _⟩
theorem Sv.push {h h3 : Sto} {n : Nat} (s : Sv h h3 n) {o : O} (p : ∀ n, cloO n o = true) : Sv h (h3 ++ [o]) n :=
  ⟨s.j.push p, by rw [List.length_append]; have := s.le; simp; omega, s.lt, by rw [List.take_append_of_le_length s.le]; exact s.mo⟩
theorem Sv.dip {h h3 h4 : Sto} {n : Nat} (s : Sv h h3 n) (m : Mo n h3 h4) : Sv h h4 n := by
  refine ⟨m.jr s.j, by rw [m.len]; exact s.le, s.lt, ?_⟩
  rcases m with rfl | ⟨x, y, z, rfl⟩
  · exact s.mo
  · rw [List.take_set]
    exact s.mo.trans (Or.inr ⟨x, y, z, rfl⟩)
theorem Sv.set {h h3 : Sto} {n m : Nat} (s : Sv h h3 n) (hm : h.length ≤ m) {o : O} (p : ∀ n, cloO n o = true) : Sv h (h3.set m o) n := by
  obtain ⟨a, b, c, e⟩ := s.j.at_
  have hne : m ≠ n := by have := s.lt; omega
  refine ⟨⟨s.j.cl.set m p, a, b, c, by rw [List.getElem?_set_ne hne, e]⟩, by rw [List.length_set]; exact s.le, s.lt, ?_⟩
  rw [List.take_set_of_le hm]
  exact s.mo
section
variable {F : Type} {S : Sh F}
theorem call_sv {f : F} {ar nl : Nat} {b : (F → List T → M T) → (Nat → Nat → List Nat → List T → M T) → List CS} (I : Is S f ar nl .shared b) {h : Sto} {n0 : Nat} (j : Jr h n0) {as : List T} {m : Nat} {Q : T → Sto → Prop}
    (w : W (runS ar nl (b (callS S (m + 1)) (makeS S (m + 1))) as) h fun v h' => ∃ v', frz h.length h' v = some v' ∧ Sv h h' n0 ∧ ∀ h'', Jr h'' n0 → Mo n0 h h'' → Q v' h'') : W (callS S (m + 2) f as) h Q := by
  refine call_shared2 I (w.mono ?_)
  rintro v h' ⟨v', e, s, q⟩
  have j' := s.mo.jr j
  exact ⟨v', e, j'.cl, q _ j' s.mo⟩
end
theorem map_ex {α : Type} (u : α → T) {l : List α} : ∀ {ys : List T}, (∀ y ∈ ys, ∃ x ∈ l, y = u x) → ∃ l' : List α, ys = l'.map u ∧ (∀ x ∈ l', x ∈ l) ∧ l'.length = ys.length
  | [], _ => ⟨[], rfl, fun _ m => (by cases m), rfl⟩
  | y :: ys, h => by
    obtain ⟨x, m, e⟩ := h y List.mem_cons_self
    obtain ⟨l', e', m', hl⟩ := map_ex u fun z m => h z (List.mem_cons_of_mem _ m)
    refine ⟨x :: l', by rw [e, e']; rfl, fun z mz => ?_, by simp [hl]⟩
    rcases List.mem_cons.mp mz with rfl | mz
    · exact m
    · exact m' z mz
theorem ints_fun (P : Int → Prop) (p0 : P 0) {ys : List T} (h : ∀ y ∈ ys, ∃ i : Int, y = .int i ∧ P i) : ∃ v : Nat → Int, ys = ((List.range ys.length).map fun a => T.int (v a)) ∧ ∀ a, P (v a) := by
  induction ys with
  | nil => exact ⟨fun _ => 0, rfl, fun _ => p0⟩
  | cons y ys ih =>
    obtain ⟨v, e, pv⟩ := ih fun z m => h z (List.mem_cons_of_mem _ m)
    obtain ⟨i, ey, pi⟩ := h y List.mem_cons_self
    refine ⟨fun a => match a with | 0 => i | a + 1 => v a, ?_, fun a => ?_⟩
    · rw [List.length_cons, List.range_succ_eq_map, List.map_cons, List.map_map, ey]
      congr 1
    · cases a with
      | zero => exact pi
      | succ a => exact pv a
theorem r_pow39 (m : Bool) : opT m .pow (.int 10) (.int 39) = ret (.int 1000000000000000000000000000000000000000) := rfl
theorem frz_low {h : Sto} {n p : Nat} (e : p < n) : frz n h (.ref p) = some (.ref p) := by
  show rUp n h (rUp n h (r0 n)) p = _
  unfold rUp
  rw [if_pos e]
end Mt

set_option maxHeartbeats 8000000
/-! Mt43: jars made, truths all. -/
namespace Mt
open PySem
section
variable {F : Type} {S : Sh F}
theorem jar2 {jar : F} (I : Is S jar 1 1 .keep fun _ _ => jarS) {h : Sto} (c : Int) {k : Nat} (hk : 2 ≤ k) :
    W (callS S k jar [.int c]) h fun v h' => v = .ref h.length ∧ ∃ a b c, h' = h ++ [jr a b c] := by
  obtain ⟨k, rfl⟩ : ∃ m, k = m + 2 := ⟨k - 2, by omega⟩
  rw [callS_s, I.e3, I.e1, I.e2, I.e4]
  show W (runS 1 1 jarS [.int c]) h _
  have e3 := r_line.2.2.2.1
  by_cases g : c < 0
  · simp (config := {maxSteps := 3000000}) (disch := first | assumption | with_unfolding_all exact id rfl | with_unfolding_all exact Nat.le_of_ble_eq_true rfl | omega) only [r_add, r_sub, r_mulL, r_mulR, r_mod, r_fdiv, r_divmod, r_pint, r_pintb, r_abs, r_min2, r_max2, r_lent, r_lenl, r_lens, r_lenr, r_tupl, r_tupt, r_negi, r_trub, r_trui, r_lt, r_le, r_gt, r_ge, r_isb, r_isnb, r_idxt, r_idxl, r_idxs, r_idxr, r_atT, r_at0, r_at1, r_at2, r_ix30, r_ix31, r_ix32, r_mkF, r_mkT, r_itt, r_itl, r_its, r_itr, r_stt, r_stl, r_sts, r_isii, r_isib, r_isit, r_isil, r_isis, r_k1, r_k2, r_k3, r_k4, r_k5, r_k6, r_k7, r_k8, r_k9, r_k10, r_k11, r_k12, r_k13, r_k14, r_k15, r_wi0, r_wi1, r_bin0, r_line, r_frzb, r_frzi, r_frzn, r_frzs, r_ret, r_no, ↓r_bnd, r_newO, r_getO, r_getO_set, r_setO, r_setO_set, r_ite, r_nox, ↓w_es0, ↓w_es1, ↓w_cO0, ↓w_cO1, ↓w_ifs0, ↓w_ifs1, ↓w_var, ↓w_con, ↓w_glob, ↓w_bin, ↓w_neg, ↓w_not, ↓w_and, ↓w_or, ↓w_ite, ↓w_cmp, ↓w_cmp2, ↓w_cmp3, ↓w_eqo, ↓w_tup, ↓w_lst, ↓w_idx, ↓w_slc, ↓w_fld, ↓w_call, ↓w_make, ↓w_meth, ↓w_prim, ↓w_isi, ↓w_bm, ↓w_lc, ↓w_rng, ↓w_enum, ↓w_zip, ↓w_seq, ↓w_gName, ↓w_gs0, ↓w_gs1, ↓w_gTup, ↓w_gTupL, ↓w_gSub, ↓w_gFld, ↓w_ss0, ↓w_ss1, ↓w_expr, ↓w_asg, ↓w_aug, ↓w_sret, ↓w_sif, ↓w_rai, ↓w_pass, ↓w_for, ↓w_runS, r_eqi, r_nei, r_eqb, ↓w_lc2, ↓r_rng, ↓w_bme, ↓w_app, ↓w_ext, r_sortp, r_zip1, r_zip0, r_sort3, r_eql3, r_allT, r_alll, r_addl, r_addt, ↓bnd_ret, ↓bnd_no, ofO_some, Option.bind_some, id, List.getElem?_cons_zero, List.getElem?_cons_succ, List.set_cons_zero, List.set_cons_succ, List.length_cons, List.length_nil, if_true, if_false, Bool.false_eq_true, List.map_cons, List.map_nil, List.cons_append, List.nil_append, List.append_nil, List.replicate_succ, List.replicate_zero, ↓reduceIte, Bool.not_true, Bool.not_false, decide_true, decide_false, Nat.reduceAdd, Nat.reduceLT, Nat.reduceLeDiff, List.length_set, true_and, and_true, Int.cast_ofNat_Int, eq_self, jarS, r_pow18, g]
    exact ⟨_, _, _, rfl⟩
  · simp (config := {maxSteps := 3000000}) (disch := first | assumption | with_unfolding_all exact id rfl | with_unfolding_all exact Nat.le_of_ble_eq_true rfl | omega) only [r_add, r_sub, r_mulL, r_mulR, r_mod, r_fdiv, r_divmod, r_pint, r_pintb, r_abs, r_min2, r_max2, r_lent, r_lenl, r_lens, r_lenr, r_tupl, r_tupt, r_negi, r_trub, r_trui, r_lt, r_le, r_gt, r_ge, r_isb, r_isnb, r_idxt, r_idxl, r_idxs, r_idxr, r_atT, r_at0, r_at1, r_at2, r_ix30, r_ix31, r_ix32, r_mkF, r_mkT, r_itt, r_itl, r_its, r_itr, r_stt, r_stl, r_sts, r_isii, r_isib, r_isit, r_isil, r_isis, r_k1, r_k2, r_k3, r_k4, r_k5, r_k6, r_k7, r_k8, r_k9, r_k10, r_k11, r_k12, r_k13, r_k14, r_k15, r_wi0, r_wi1, r_bin0, r_line, r_frzb, r_frzi, r_frzn, r_frzs, r_ret, r_no, ↓r_bnd, r_newO, r_getO, r_getO_set, r_setO, r_setO_set, r_ite, r_nox, ↓w_es0, ↓w_es1, ↓w_cO0, ↓w_cO1, ↓w_ifs0, ↓w_ifs1, ↓w_var, ↓w_con, ↓w_glob, ↓w_bin, ↓w_neg, ↓w_not, ↓w_and, ↓w_or, ↓w_ite, ↓w_cmp, ↓w_cmp2, ↓w_cmp3, ↓w_eqo, ↓w_tup, ↓w_lst, ↓w_idx, ↓w_slc, ↓w_fld, ↓w_call, ↓w_make, ↓w_meth, ↓w_prim, ↓w_isi, ↓w_bm, ↓w_lc, ↓w_rng, ↓w_enum, ↓w_zip, ↓w_seq, ↓w_gName, ↓w_gs0, ↓w_gs1, ↓w_gTup, ↓w_gTupL, ↓w_gSub, ↓w_gFld, ↓w_ss0, ↓w_ss1, ↓w_expr, ↓w_asg, ↓w_aug, ↓w_sret, ↓w_sif, ↓w_rai, ↓w_pass, ↓w_for, ↓w_runS, r_eqi, r_nei, r_eqb, ↓w_lc2, ↓r_rng, ↓w_bme, ↓w_app, ↓w_ext, r_sortp, r_zip1, r_zip0, r_sort3, r_eql3, r_allT, r_alll, r_addl, r_addt, ↓bnd_ret, ↓bnd_no, ofO_some, Option.bind_some, id, List.getElem?_cons_zero, List.getElem?_cons_succ, List.set_cons_zero, List.set_cons_succ, List.length_cons, List.length_nil, if_true, if_false, Bool.false_eq_true, List.map_cons, List.map_nil, List.cons_append, List.nil_append, List.append_nil, List.replicate_succ, List.replicate_zero, ↓reduceIte, Bool.not_true, Bool.not_false, decide_true, decide_false, Nat.reduceAdd, Nat.reduceLT, Nat.reduceLeDiff, List.length_set, true_and, and_true, Int.cast_ofNat_Int, eq_self, jarS, r_pow18, g, r_b01]
    exact ⟨_, _, _, rfl⟩
end
theorem Jr.new {h : Sto} (c : Cl h) (x y z : Int) : Jr (h ++ [jr x y z]) h.length := ⟨c.push (Cl.jr _ _ _), x, y, z, by simp⟩
theorem all_true (m : Bool) {ys : List T} (h : ∀ y ∈ ys, y = T.bl true) : primT .all m [.lst ys] = ret (.bl true) := by
  rw [List.eq_replicate_iff.mpr ⟨rfl, h⟩]
  exact r_allT m _
end Mt

set_option maxHeartbeats 8000000
/-! Mt44: sizes beside a jar, middles in any turn, one number put. -/
namespace Mt
open PySem
section
variable {F : Type} {S : Sh F}
theorem size3 {size dip : F} (D : Is S dip 2 2 .shared fun _ _ => dipS) (I : Is S size 2 0 .shared fun G _ => sizeS S.P dip G) {h : Sto} {n : Nat} (j : Jr h n) {m : Int} (h0 : 5 ≤ m) (h1 : m < 2 ^ 256) {k : Nat} (hk : 3 ≤ k) :
    W (callS S k size [.ref n, .int m]) h fun v h' => ∃ i : Int, v = .int i ∧ 1 ≤ i ∧ i ≤ m ∧ Jr h' n ∧ Mo n h h' := by
  obtain ⟨k, rfl⟩ : ∃ m, k = m + 2 := ⟨k - 2, by omega⟩
  refine call_sv I j ?_
  simp (config := {maxSteps := 3000000}) (disch := first | assumption | with_unfolding_all exact id rfl | with_unfolding_all exact Nat.le_of_ble_eq_true rfl | omega) only [r_add, r_sub, r_mulL, r_mulR, r_mod, r_fdiv, r_divmod, r_pint, r_pintb, r_abs, r_min2, r_max2, r_lent, r_lenl, r_lens, r_lenr, r_tupl, r_tupt, r_negi, r_trub, r_trui, r_lt, r_le, r_gt, r_ge, r_isb, r_isnb, r_idxt, r_idxl, r_idxs, r_idxr, r_atT, r_at0, r_at1, r_at2, r_ix30, r_ix31, r_ix32, r_mkF, r_mkT, r_itt, r_itl, r_its, r_itr, r_stt, r_stl, r_sts, r_isii, r_isib, r_isit, r_isil, r_isis, r_k1, r_k2, r_k3, r_k4, r_k5, r_k6, r_k7, r_k8, r_k9, r_k10, r_k11, r_k12, r_k13, r_k14, r_k15, r_wi0, r_wi1, r_bin0, r_line, r_frzb, r_frzi, r_frzn, r_frzs, r_ret, r_no, ↓r_bnd, r_newO, r_getO, r_getO_set, r_setO, r_setO_set, r_ite, r_nox, ↓w_es0, ↓w_es1, ↓w_cO0, ↓w_cO1, ↓w_ifs0, ↓w_ifs1, ↓w_var, ↓w_con, ↓w_glob, ↓w_bin, ↓w_neg, ↓w_not, ↓w_and, ↓w_or, ↓w_ite, ↓w_cmp, ↓w_cmp2, ↓w_cmp3, ↓w_eqo, ↓w_tup, ↓w_lst, ↓w_idx, ↓w_slc, ↓w_fld, ↓w_call, ↓w_make, ↓w_meth, ↓w_prim, ↓w_isi, ↓w_bm, ↓w_lc, ↓w_rng, ↓w_enum, ↓w_zip, ↓w_seq, ↓w_gName, ↓w_gs0, ↓w_gs1, ↓w_gTup, ↓w_gTupL, ↓w_gSub, ↓w_gFld, ↓w_ss0, ↓w_ss1, ↓w_expr, ↓w_asg, ↓w_aug, ↓w_sret, ↓w_sif, ↓w_rai, ↓w_pass, ↓w_for, ↓w_runS, r_eqi, r_nei, r_eqb, ↓w_lc2, ↓r_rng, ↓w_bme, ↓w_app, ↓w_ext, r_sortp, r_zip1, r_zip0, r_sort3, r_eql3, r_allT, r_alll, r_addl, r_addt, ↓bnd_ret, ↓bnd_no, ofO_some, Option.bind_some, id, List.getElem?_cons_zero, List.getElem?_cons_succ, List.set_cons_zero, List.set_cons_succ, List.length_cons, List.length_nil, if_true, if_false, Bool.false_eq_true, List.map_cons, List.map_nil, List.cons_append, List.nil_append, List.append_nil, List.replicate_succ, List.replicate_zero, ↓reduceIte, Bool.not_true, Bool.not_false, decide_true, decide_false, Nat.reduceAdd, Nat.reduceLT, Nat.reduceLeDiff, List.length_set, true_and, and_true, Int.cast_ofNat_Int, eq_self, sizeS, D.bind]
  refine (dip3 D j (by decide) (by decide) (by omega)).mono ?_
  rintro _ h1' ⟨i1, rfl, a1, b1, j1, m1⟩
  simp (config := {maxSteps := 3000000}) (disch := first | assumption | with_unfolding_all exact id rfl | with_unfolding_all exact Nat.le_of_ble_eq_true rfl | omega) only [r_add, r_sub, r_mulL, r_mulR, r_mod, r_fdiv, r_divmod, r_pint, r_pintb, r_abs, r_min2, r_max2, r_lent, r_lenl, r_lens, r_lenr, r_tupl, r_tupt, r_negi, r_trub, r_trui, r_lt, r_le, r_gt, r_ge, r_isb, r_isnb, r_idxt, r_idxl, r_idxs, r_idxr, r_atT, r_at0, r_at1, r_at2, r_ix30, r_ix31, r_ix32, r_mkF, r_mkT, r_itt, r_itl, r_its, r_itr, r_stt, r_stl, r_sts, r_isii, r_isib, r_isit, r_isil, r_isis, r_k1, r_k2, r_k3, r_k4, r_k5, r_k6, r_k7, r_k8, r_k9, r_k10, r_k11, r_k12, r_k13, r_k14, r_k15, r_wi0, r_wi1, r_bin0, r_line, r_frzb, r_frzi, r_frzn, r_frzs, r_ret, r_no, ↓r_bnd, r_newO, r_getO, r_getO_set, r_setO, r_setO_set, r_ite, r_nox, ↓w_es0, ↓w_es1, ↓w_cO0, ↓w_cO1, ↓w_ifs0, ↓w_ifs1, ↓w_var, ↓w_con, ↓w_glob, ↓w_bin, ↓w_neg, ↓w_not, ↓w_and, ↓w_or, ↓w_ite, ↓w_cmp, ↓w_cmp2, ↓w_cmp3, ↓w_eqo, ↓w_tup, ↓w_lst, ↓w_idx, ↓w_slc, ↓w_fld, ↓w_call, ↓w_make, ↓w_meth, ↓w_prim, ↓w_isi, ↓w_bm, ↓w_lc, ↓w_rng, ↓w_enum, ↓w_zip, ↓w_seq, ↓w_gName, ↓w_gs0, ↓w_gs1, ↓w_gTup, ↓w_gTupL, ↓w_gSub, ↓w_gFld, ↓w_ss0, ↓w_ss1, ↓w_expr, ↓w_asg, ↓w_aug, ↓w_sret, ↓w_sif, ↓w_rai, ↓w_pass, ↓w_for, ↓w_runS, r_eqi, r_nei, r_eqb, ↓w_lc2, ↓r_rng, ↓w_bme, ↓w_app, ↓w_ext, r_sortp, r_zip1, r_zip0, r_sort3, r_eql3, r_allT, r_alll, r_addl, r_addt, ↓bnd_ret, ↓bnd_no, ofO_some, Option.bind_some, id, List.getElem?_cons_zero, List.getElem?_cons_succ, List.set_cons_zero, List.set_cons_succ, List.length_cons, List.length_nil, if_true, if_false, Bool.false_eq_true, List.map_cons, List.map_nil, List.cons_append, List.nil_append, List.append_nil, List.replicate_succ, List.replicate_zero, ↓reduceIte, Bool.not_true, Bool.not_false, decide_true, decide_false, Nat.reduceAdd, Nat.reduceLT, Nat.reduceLeDiff, List.length_set, true_and, and_true, Int.cast_ofNat_Int, eq_self, sizeS, D.bind]
  refine (dip3 D j1 (by omega) (by omega) (by omega)).mono ?_
  rintro _ h2' ⟨i2, rfl, a2, b2, j2, m2⟩
  simp (config := {maxSteps := 3000000}) (disch := first | assumption | with_unfolding_all exact id rfl | with_unfolding_all exact Nat.le_of_ble_eq_true rfl | omega) only [r_add, r_sub, r_mulL, r_mulR, r_mod, r_fdiv, r_divmod, r_pint, r_pintb, r_abs, r_min2, r_max2, r_lent, r_lenl, r_lens, r_lenr, r_tupl, r_tupt, r_negi, r_trub, r_trui, r_lt, r_le, r_gt, r_ge, r_isb, r_isnb, r_idxt, r_idxl, r_idxs, r_idxr, r_atT, r_at0, r_at1, r_at2, r_ix30, r_ix31, r_ix32, r_mkF, r_mkT, r_itt, r_itl, r_its, r_itr, r_stt, r_stl, r_sts, r_isii, r_isib, r_isit, r_isil, r_isis, r_k1, r_k2, r_k3, r_k4, r_k5, r_k6, r_k7, r_k8, r_k9, r_k10, r_k11, r_k12, r_k13, r_k14, r_k15, r_wi0, r_wi1, r_bin0, r_line, r_frzb, r_frzi, r_frzn, r_frzs, r_ret, r_no, ↓r_bnd, r_newO, r_getO, r_getO_set, r_setO, r_setO_set, r_ite, r_nox, ↓w_es0, ↓w_es1, ↓w_cO0, ↓w_cO1, ↓w_ifs0, ↓w_ifs1, ↓w_var, ↓w_con, ↓w_glob, ↓w_bin, ↓w_neg, ↓w_not, ↓w_and, ↓w_or, ↓w_ite, ↓w_cmp, ↓w_cmp2, ↓w_cmp3, ↓w_eqo, ↓w_tup, ↓w_lst, ↓w_idx, ↓w_slc, ↓w_fld, ↓w_call, ↓w_make, ↓w_meth, ↓w_prim, ↓w_isi, ↓w_bm, ↓w_lc, ↓w_rng, ↓w_enum, ↓w_zip, ↓w_seq, ↓w_gName, ↓w_gs0, ↓w_gs1, ↓w_gTup, ↓w_gTupL, ↓w_gSub, ↓w_gFld, ↓w_ss0, ↓w_ss1, ↓w_expr, ↓w_asg, ↓w_aug, ↓w_sret, ↓w_sif, ↓w_rai, ↓w_pass, ↓w_for, ↓w_runS, r_eqi, r_nei, r_eqb, ↓w_lc2, ↓r_rng, ↓w_bme, ↓w_app, ↓w_ext, r_sortp, r_zip1, r_zip0, r_sort3, r_eql3, r_allT, r_alll, r_addl, r_addt, ↓bnd_ret, ↓bnd_no, ofO_some, Option.bind_some, id, List.getElem?_cons_zero, List.getElem?_cons_succ, List.set_cons_zero, List.set_cons_succ, List.length_cons, List.length_nil, if_true, if_false, Bool.false_eq_true, List.map_cons, List.map_nil, List.cons_append, List.nil_append, List.append_nil, List.replicate_succ, List.replicate_zero, ↓reduceIte, Bool.not_true, Bool.not_false, decide_true, decide_false, Nat.reduceAdd, Nat.reduceLT, Nat.reduceLeDiff, List.length_set, true_and, and_true, Int.cast_ofNat_Int, eq_self, sizeS, D.bind]
  refine (dip3 D j2 (by omega) (by omega) (by omega)).mono ?_
  rintro _ h3' ⟨i3, rfl, a3, b3, j3, m3⟩
  have s := (Sv.refl j).dip (m1.trans (m2.trans m3))
  rcases (by omega : i3 = 0 ∨ i3 = 1) with rfl | rfl
  · simp (config := {maxSteps := 3000000}) (disch := first | assumption | with_unfolding_all exact id rfl | with_unfolding_all exact Nat.le_of_ble_eq_true rfl | omega) only [r_add, r_sub, r_mulL, r_mulR, r_mod, r_fdiv, r_divmod, r_pint, r_pintb, r_abs, r_min2, r_max2, r_lent, r_lenl, r_lens, r_lenr, r_tupl, r_tupt, r_negi, r_trub, r_trui, r_lt, r_le, r_gt, r_ge, r_isb, r_isnb, r_idxt, r_idxl, r_idxs, r_idxr, r_atT, r_at0, r_at1, r_at2, r_ix30, r_ix31, r_ix32, r_mkF, r_mkT, r_itt, r_itl, r_its, r_itr, r_stt, r_stl, r_sts, r_isii, r_isib, r_isit, r_isil, r_isis, r_k1, r_k2, r_k3, r_k4, r_k5, r_k6, r_k7, r_k8, r_k9, r_k10, r_k11, r_k12, r_k13, r_k14, r_k15, r_wi0, r_wi1, r_bin0, r_line, r_frzb, r_frzi, r_frzn, r_frzs, r_ret, r_no, ↓r_bnd, r_newO, r_getO, r_getO_set, r_setO, r_setO_set, r_ite, r_nox, ↓w_es0, ↓w_es1, ↓w_cO0, ↓w_cO1, ↓w_ifs0, ↓w_ifs1, ↓w_var, ↓w_con, ↓w_glob, ↓w_bin, ↓w_neg, ↓w_not, ↓w_and, ↓w_or, ↓w_ite, ↓w_cmp, ↓w_cmp2, ↓w_cmp3, ↓w_eqo, ↓w_tup, ↓w_lst, ↓w_idx, ↓w_slc, ↓w_fld, ↓w_call, ↓w_make, ↓w_meth, ↓w_prim, ↓w_isi, ↓w_bm, ↓w_lc, ↓w_rng, ↓w_enum, ↓w_zip, ↓w_seq, ↓w_gName, ↓w_gs0, ↓w_gs1, ↓w_gTup, ↓w_gTupL, ↓w_gSub, ↓w_gFld, ↓w_ss0, ↓w_ss1, ↓w_expr, ↓w_asg, ↓w_aug, ↓w_sret, ↓w_sif, ↓w_rai, ↓w_pass, ↓w_for, ↓w_runS, r_eqi, r_nei, r_eqb, ↓w_lc2, ↓r_rng, ↓w_bme, ↓w_app, ↓w_ext, r_sortp, r_zip1, r_zip0, r_sort3, r_eql3, r_allT, r_alll, r_addl, r_addt, ↓bnd_ret, ↓bnd_no, ofO_some, Option.bind_some, id, List.getElem?_cons_zero, List.getElem?_cons_succ, List.set_cons_zero, List.set_cons_succ, List.length_cons, List.length_nil, if_true, if_false, Bool.false_eq_true, List.map_cons, List.map_nil, List.cons_append, List.nil_append, List.append_nil, List.replicate_succ, List.replicate_zero, ↓reduceIte, Bool.not_true, Bool.not_false, decide_true, decide_false, Nat.reduceAdd, Nat.reduceLT, Nat.reduceLeDiff, List.length_set, true_and, and_true, Int.cast_ofNat_Int, eq_self]
    exact ⟨_, rfl, s, fun h'' j' m => ⟨_, rfl, by omega, by omega, j', m⟩⟩
  · simp (config := {maxSteps := 3000000}) (disch := first | assumption | with_unfolding_all exact id rfl | with_unfolding_all exact Nat.le_of_ble_eq_true rfl | omega) only [r_add, r_sub, r_mulL, r_mulR, r_mod, r_fdiv, r_divmod, r_pint, r_pintb, r_abs, r_min2, r_max2, r_lent, r_lenl, r_lens, r_lenr, r_tupl, r_tupt, r_negi, r_trub, r_trui, r_lt, r_le, r_gt, r_ge, r_isb, r_isnb, r_idxt, r_idxl, r_idxs, r_idxr, r_atT, r_at0, r_at1, r_at2, r_ix30, r_ix31, r_ix32, r_mkF, r_mkT, r_itt, r_itl, r_its, r_itr, r_stt, r_stl, r_sts, r_isii, r_isib, r_isit, r_isil, r_isis, r_k1, r_k2, r_k3, r_k4, r_k5, r_k6, r_k7, r_k8, r_k9, r_k10, r_k11, r_k12, r_k13, r_k14, r_k15, r_wi0, r_wi1, r_bin0, r_line, r_frzb, r_frzi, r_frzn, r_frzs, r_ret, r_no, ↓r_bnd, r_newO, r_getO, r_getO_set, r_setO, r_setO_set, r_ite, r_nox, ↓w_es0, ↓w_es1, ↓w_cO0, ↓w_cO1, ↓w_ifs0, ↓w_ifs1, ↓w_var, ↓w_con, ↓w_glob, ↓w_bin, ↓w_neg, ↓w_not, ↓w_and, ↓w_or, ↓w_ite, ↓w_cmp, ↓w_cmp2, ↓w_cmp3, ↓w_eqo, ↓w_tup, ↓w_lst, ↓w_idx, ↓w_slc, ↓w_fld, ↓w_call, ↓w_make, ↓w_meth, ↓w_prim, ↓w_isi, ↓w_bm, ↓w_lc, ↓w_rng, ↓w_enum, ↓w_zip, ↓w_seq, ↓w_gName, ↓w_gs0, ↓w_gs1, ↓w_gTup, ↓w_gTupL, ↓w_gSub, ↓w_gFld, ↓w_ss0, ↓w_ss1, ↓w_expr, ↓w_asg, ↓w_aug, ↓w_sret, ↓w_sif, ↓w_rai, ↓w_pass, ↓w_for, ↓w_runS, r_eqi, r_nei, r_eqb, ↓w_lc2, ↓r_rng, ↓w_bme, ↓w_app, ↓w_ext, r_sortp, r_zip1, r_zip0, r_sort3, r_eql3, r_allT, r_alll, r_addl, r_addt, ↓bnd_ret, ↓bnd_no, ofO_some, Option.bind_some, id, List.getElem?_cons_zero, List.getElem?_cons_succ, List.set_cons_zero, List.set_cons_succ, List.length_cons, List.length_nil, if_true, if_false, Bool.false_eq_true, List.map_cons, List.map_nil, List.cons_append, List.nil_append, List.append_nil, List.replicate_succ, List.replicate_zero, ↓reduceIte, Bool.not_true, Bool.not_false, decide_true, decide_false, Nat.reduceAdd, Nat.reduceLT, Nat.reduceLeDiff, List.length_set, true_and, and_true, Int.cast_ofNat_Int, eq_self]
    exact ⟨_, rfl, s, fun h'' j' m => ⟨_, rfl, by omega, by omega, j', m⟩⟩
end
theorem mid_eq (a b c : Int) : mid a b c = max (min a b) (min (max a b) c) := by
  unfold mid isort
  simp only [ssort, sins]
  by_cases h1 : b ≤ c <;> by_cases h2 : a ≤ b <;> by_cases h3 : a ≤ c <;> simp [h1, h2, h3, sins, ssort] <;> omega
theorem mid1 (a b c : Int) : mid a c b = mid a b c := by rw [mid_eq, mid_eq]; omega
theorem mid2 (a b c : Int) : mid b a c = mid a b c := by rw [mid_eq, mid_eq]; omega
theorem mid3 (a b c : Int) : mid b c a = mid a b c := by rw [mid_eq, mid_eq]; omega
theorem mid4 (a b c : Int) : mid c a b = mid a b c := by rw [mid_eq, mid_eq]; omega
theorem mid5 (a b c : Int) : mid c b a = mid a b c := by rw [mid_eq, mid_eq]; omega
theorem x_sortr {h : Sto} {Q : T → Sto → Prop} (m : Bool) {n : Nat} {x y z : Int} (e : h[n]? = some (.lst [.int x, .int y, .int z])) : W (primT .sorted m [.ref n]) h Q ↔ W (mkL m ((isort [x, y, z]).map .int)) h Q := by
  show W (bnd (bnd (getO n) _) _) h Q ↔ _
  rw [r_bnd, r_bnd, r_getO e]
  show W (ret [T.int x, .int y, .int z]) h _ ↔ _
  rw [r_ret]
  exact Iff.rfl
theorem x_gTupR {h : Sto} {Q : Mt.Env → Sto → Prop} {ts : List CG} {n : Nat} {xs : List T} (σ : Mt.Env) (e : h[n]? = some (.lst xs)) (l : ts.length = xs.length) : W (gTupC ts (.ref n) σ) h Q ↔ W (cGs ts xs σ) h Q := by
  show W (bnd (bnd (getO n) _) _) h Q ↔ _
  rw [r_bnd, r_bnd, r_getO e]
  show W (ret xs) h _ ↔ _
  rw [r_ret, if_pos l]
theorem x_rep2 (m : Bool) (x : T) : opT m .mul (.lst [x]) (.int 2) = mkL m [x, x] := by
  cases m <;> rfl
/-! one number put -/
theorem glue {α : Type} (v : Nat → α) (n k : Nat) (z : α) (h : k < n) : (List.range k).map v ++ [z] ++ (List.range (n - k - 1)).map (fun i => v (k + 1 + i)) = (List.range n).map fun i => if i = k then z else v i := by
  apply List.ext_getElem
  · simp; omega
  · intro i h1 h2
    simp only [List.getElem_map, List.getElem_range]
    by_cases c : i < k
    · rw [List.getElem_append_left (by simp; omega), List.getElem_append_left (by simp; omega), if_neg (by omega)]
      simp
    · by_cases d : i = k
      · subst d
        rw [List.getElem_append_left (by simp), List.getElem_append_right (by simp), if_pos rfl]
        simp
      · rw [List.getElem_append_right (by simp; omega), if_neg d]
        simp only [List.getElem_map, List.getElem_range, List.length_append, List.length_map, List.length_range, List.length_cons, List.length_nil]
        congr 1
        omega
theorem cut_to {α : Type} (v : Nat → α) {n k : Nat} (h : k ≤ n) : cut ((List.range n).map v) none (some (k : Int)) = (List.range k).map v := by
  unfold cut
  rw [len_range, HT.sIx_nat, Nat.min_eq_left h]
  show ((List.map v (List.range n)).drop 0).take (k - 0) = _
  rw [List.drop_zero, Nat.sub_zero, ← List.map_take, List.take_range, Nat.min_eq_left h]
theorem cut_from {α : Type} (v : Nat → α) {n k : Nat} (h : k < n) : cut ((List.range n).map v) (some ((k : Int) + 1)) none = (List.range (n - k - 1)).map fun i => v (k + 1 + i) := by
  unfold cut
  rw [len_range, show (k : Int) + 1 = ((k + 1 : Nat) : Int) by omega, HT.sIx_nat, Nat.min_eq_left (by omega)]
  show ((List.map v (List.range n)).drop (k + 1)).take (n - (k + 1)) = _
  apply List.ext_getElem
  · simp; omega
  · intro i h1 h2
    simp
theorem x_triTo (m : Bool) (g : Nat → Nat → Int) {w k : Nat} (h : k ≤ w) : slcT m none (some (k : Int)) (tri w g) = ret (.tup ((List.range k).map fun r => rowT (g r) (r + 1))) := by
  show ret (T.tup (cut _ none (some (k : Int)))) = _
  rw [cut_to _ h]
theorem x_triFrom (m : Bool) (g : Nat → Nat → Int) {w k : Nat} (h : k < w) : slcT m (some ((k : Int) + 1)) none (tri w g) = ret (.tup ((List.range (w - k - 1)).map fun i => rowT (g (k + 1 + i)) (k + 1 + i + 1))) := by
  show ret (T.tup (cut _ (some ((k : Int) + 1)) none)) = _
  rw [cut_from _ h]
theorem x_rowTo (m : Bool) (g : Nat → Int) {n k : Nat} (h : k ≤ n) : slcT m none (some (k : Int)) (rowT g n) = ret (.tup ((List.range k).map fun a => .int (g a))) := by
  show ret (T.tup (cut _ none (some (k : Int)))) = _
  rw [cut_to _ h]
theorem x_rowFrom (m : Bool) (g : Nat → Int) {n k : Nat} (h : k < n) : slcT m (some ((k : Int) + 1)) none (rowT g n) = ret (.tup ((List.range (n - k - 1)).map fun i => .int (g (k + 1 + i)))) := by
  show ret (T.tup (cut _ (some ((k : Int) + 1)) none)) = _
  rw [cut_from _ h]
theorem x_addt (m : Bool) {xs ys : List T} (h : xs.length + ys.length ≤ 1000) : opT m .add (.tup xs) (.tup ys) = ret (.tup (xs ++ ys)) :=
  if_pos (Nat.le_trans h line1000)
/-- a ground with a number put -/
def putg (g : Nat → Nat → Int) (x y : Nat) (z : Int) (r a : Nat) : Int := if r = x ∧ a = y then z else g r a
theorem put_tri (g : Nat → Nat → Int) {w x y : Nat} (z : Int) (hx : x < w) (hy : y ≤ x) :
    T.tup ((List.range x).map (fun r => rowT (g r) (r + 1)) ++ [.tup ((List.range y).map (fun a => T.int (g x a)) ++ [.int z] ++ (List.range (x + 1 - y - 1)).map fun i => T.int (g x (y + 1 + i)))] ++ (List.range (w - x - 1)).map fun i => rowT (g (x + 1 + i)) (x + 1 + i + 1)) = tri w (putg g x y z) := by
  rw [glue (fun a => T.int (g x a)) (x + 1) y (.int z) (by omega), glue (fun r => rowT (g r) (r + 1)) w x _ hx]
  unfold tri
  congr 1
  refine List.map_congr_left fun r m => ?_
  by_cases c : r = x
  · subst c
    rw [if_pos rfl]
    unfold rowT
    congr 1
    refine List.map_congr_left fun a m => ?_
    unfold putg
    by_cases d : a = y
    · rw [if_pos d, if_pos ⟨rfl, d⟩]
    · rw [if_neg d, if_neg fun e => d e.2]
  · rw [if_neg c]
    unfold rowT
    congr 1
    refine List.map_congr_left fun a m => ?_
    unfold putg
    rw [if_neg fun e => c e.1]
/-- what holds of all numbers holds of all words -/
theorem mid_P (P : Int → Prop) {a b c : Int} (ha : P a) (hb : P b) (hc : P c) : P (mid a b c) := by
  rw [mid_eq]
  rcases (by omega : max (min a b) (min (max a b) c) = a ∨ max (min a b) (min (max a b) c) = b ∨ max (min a b) (min (max a b) c) = c) with e | e | e <;> rw [e] <;> assumption
theorem flo_P (P : Int → Prop) {g : Nat → Nat → Int} (h : ∀ r a, P (g r a)) : ∀ s r a, P (flo g s r a)
  | 0, r, a => h r a
  | s + 1, r, a => mid_P P (flo_P P h s _ _) (flo_P P h s _ _) (flo_P P h s _ _)
/-- numbers whose texts are short -/
def Sb (i : Int) : Prop := -10000000000000000000000000000000000000000 ≤ i ∧ i ≤ 10000000000000000000000000000000000000000
theorem sb_rp {i : Int} (h : Sb i) : Rp 0 61 (.int i) := Rp.int (by
  unfold Sb at h
  have : i.natAbs ≤ 10000000000000000000000000000000000000000 := by omega
  exact Nat.lt_of_le_of_lt this (by decide))
theorem row_rp {g : Nat → Int} (h : ∀ a, Sb (g a)) {n : Nat} (hn : n ≤ 13) : Rp 1 900 (rowT g n) := by
  refine (Rp.tup (n := 0) (B := 61) fun x m => ?_).mono (by decide) ?_
  · obtain ⟨a, _, rfl⟩ := List.mem_map.mp m
    exact sb_rp (h a)
  · rw [len_range]; omega
theorem tri_rp {g : Nat → Nat → Int} (h : ∀ r a, Sb (g r a)) {w : Nat} (hw : w ≤ 12) : Rp 2 12000 (tri w g) := by
  refine (Rp.tup (n := 1) (B := 900) fun x m => ?_).mono (by decide) ?_
  · obtain ⟨r, m', rfl⟩ := List.mem_map.mp m
    have := List.mem_range.mp m'
    exact row_rp (h r) (by omega)
  · rw [len_range]; omega
theorem floL_rp {g : Nat → Nat → Int} (h : ∀ r a, Sb (g r a)) {w : Nat} (hw : w ≤ 12) : ∃ S, primT .repr false [.tup (floL w g w)] = ret (T.str S) ∧ T.dat 64 (T.str S) = true := by
  refine Rp.run (n := 3) (B := (12000 + 2) * (floL w g w).length + 4) (Rp.tup fun x m => ?_) (by decide) ?_ false
  · obtain ⟨s, m', rfl⟩ := List.mem_map.mp m
    exact tri_rp (flo_P Sb h s) (by omega)
  · unfold floL
    rw [len_range]; omega
end Mt

set_option maxHeartbeats 8000000
namespace K13
open PySem PySem.Spec PyProof.Rows L2 Mt
def top (i : Nat) : Stmt := PySem.Challenge.pw_midtower_k13_middles_and_floors.main.body.getD i (.Pass ⟨0, 0, 0, 0⟩)
inductive Q where
  | qlaw | l_right | l_middles_right | l_dip | qmiddle | qcheck_number | qis_whole | qmiddle_of | l_is_whole | l_rows | l_size | qGround_init | qcheck_rows | qis_row | l_floors | l_over | qfloors | qcheck_ground | qfloors_of | qnext_rows | qtop | qtop_of | qGround_put | qcheck_spot | qis_spot_of | qis_within | l_jar | l_cell | qGround_eq
  deriving DecidableEq
def st : Q → Stmt
  | .qlaw => top 39
  | .l_right => top 38
  | .l_middles_right => top 37
  | .l_dip => top 31
  | .qmiddle => top 25
  | .qcheck_number => top 9
  | .qis_whole => top 7
  | .qmiddle_of => top 21
  | .l_is_whole => top 36
  | .l_rows => top 33
  | .l_size => top 32
  | .qGround_init => inClass (top 18) 0
  | .qcheck_rows => top 16
  | .qis_row => top 15
  | .l_floors => top 35
  | .l_over => top 34
  | .qfloors => top 26
  | .qcheck_ground => top 19
  | .qfloors_of => top 23
  | .qnext_rows => top 22
  | .qtop => top 27
  | .qtop_of => top 24
  | .qGround_put => inClass (top 18) 6
  | .qcheck_spot => top 13
  | .qis_spot_of => top 12
  | .qis_within => top 8
  | .l_jar => top 30
  | .l_cell => top 29
  | .qGround_eq => inClass (top 18) 1
def at_ : Q → Str × Option Str
  | .qlaw => ("law", none)
  | .l_right => ("_law_right", none)
  | .l_middles_right => ("_law_middles_right", none)
  | .l_dip => ("_law_dip", none)
  | .qmiddle => ("middle", none)
  | .qcheck_number => ("check_number", none)
  | .qis_whole => ("is_whole", none)
  | .qmiddle_of => ("middle_of", none)
  | .l_is_whole => ("_law_is_whole", none)
  | .l_rows => ("_law_rows", none)
  | .l_size => ("_law_size", none)
  | .qGround_init => ("Ground", some "__init__")
  | .qcheck_rows => ("check_rows", none)
  | .qis_row => ("is_row", none)
  | .l_floors => ("_law_floors", none)
  | .l_over => ("_law_over", none)
  | .qfloors => ("floors", none)
  | .qcheck_ground => ("check_ground", none)
  | .qfloors_of => ("floors_of", none)
  | .qnext_rows => ("next_rows", none)
  | .qtop => ("top", none)
  | .qtop_of => ("top_of", none)
  | .qGround_put => ("Ground", some "put")
  | .qcheck_spot => ("check_spot", none)
  | .qis_spot_of => ("is_spot_of", none)
  | .qis_within => ("is_within", none)
  | .l_jar => ("_law_jar", none)
  | .l_cell => ("_law_cell", none)
  | .qGround_eq => ("Ground", some "__eq__")
def nam : Q → Str
  | .qlaw => "law"
  | .l_right => "_law_right"
  | .l_middles_right => "_law_middles_right"
  | .l_dip => "_law_dip"
  | .qmiddle => "middle"
  | .qcheck_number => "check_number"
  | .qis_whole => "is_whole"
  | .qmiddle_of => "middle_of"
  | .l_is_whole => "_law_is_whole"
  | .l_rows => "_law_rows"
  | .l_size => "_law_size"
  | .qGround_init => "__init__"
  | .qcheck_rows => "check_rows"
  | .qis_row => "is_row"
  | .l_floors => "_law_floors"
  | .l_over => "_law_over"
  | .qfloors => "floors"
  | .qcheck_ground => "check_ground"
  | .qfloors_of => "floors_of"
  | .qnext_rows => "next_rows"
  | .qtop => "top"
  | .qtop_of => "top_of"
  | .qGround_put => "put"
  | .qcheck_spot => "check_spot"
  | .qis_spot_of => "is_spot_of"
  | .qis_within => "is_within"
  | .l_jar => "_law_jar"
  | .l_cell => "_law_cell"
  | .qGround_eq => "__eq__"
def qun : Q → Str
  | .qlaw => "law"
  | .l_right => "_law_right"
  | .l_middles_right => "_law_middles_right"
  | .l_dip => "_law_dip"
  | .qmiddle => "middle"
  | .qcheck_number => "check_number"
  | .qis_whole => "is_whole"
  | .qmiddle_of => "middle_of"
  | .l_is_whole => "_law_is_whole"
  | .l_rows => "_law_rows"
  | .l_size => "_law_size"
  | .qGround_init => "Ground.__init__"
  | .qcheck_rows => "check_rows"
  | .qis_row => "is_row"
  | .l_floors => "_law_floors"
  | .l_over => "_law_over"
  | .qfloors => "floors"
  | .qcheck_ground => "check_ground"
  | .qfloors_of => "floors_of"
  | .qnext_rows => "next_rows"
  | .qtop => "top"
  | .qtop_of => "top_of"
  | .qGround_put => "Ground.put"
  | .qcheck_spot => "check_spot"
  | .qis_spot_of => "is_spot_of"
  | .qis_within => "is_within"
  | .l_jar => "_law_jar"
  | .l_cell => "_law_cell"
  | .qGround_eq => "Ground.__eq__"
def dfl : Q → List He.Dv
  | .qlaw => []
  | .l_right => []
  | .l_middles_right => []
  | .l_dip => []
  | .qmiddle => []
  | .qcheck_number => []
  | .qis_whole => []
  | .qmiddle_of => []
  | .l_is_whole => []
  | .l_rows => []
  | .l_size => []
  | .qGround_init => []
  | .qcheck_rows => []
  | .qis_row => []
  | .l_floors => []
  | .l_over => []
  | .qfloors => []
  | .qcheck_ground => []
  | .qfloors_of => []
  | .qnext_rows => []
  | .qtop => []
  | .qtop_of => []
  | .qGround_put => []
  | .qcheck_spot => []
  | .qis_spot_of => []
  | .qis_within => []
  | .l_jar => []
  | .l_cell => []
  | .qGround_eq => []
def kwd : Q → List (Str × He.Dv)
  | .qlaw => []
  | .l_right => []
  | .l_middles_right => []
  | .l_dip => []
  | .qmiddle => []
  | .qcheck_number => []
  | .qis_whole => []
  | .qmiddle_of => []
  | .l_is_whole => []
  | .l_rows => []
  | .l_size => []
  | .qGround_init => []
  | .qcheck_rows => []
  | .qis_row => []
  | .l_floors => []
  | .l_over => []
  | .qfloors => []
  | .qcheck_ground => []
  | .qfloors_of => []
  | .qnext_rows => []
  | .qtop => []
  | .qtop_of => []
  | .qGround_put => []
  | .qcheck_spot => []
  | .qis_spot_of => []
  | .qis_within => []
  | .l_jar => []
  | .l_cell => []
  | .qGround_eq => []
def dd (q : Q) : He.DefD := ⟨at_ q, nam q, qun q, defArgs (st q), defBody (st q), defScope (st q), dfl q, kwd q⟩
def ps : Q → List Str
  | .qlaw => ["_law_script"]
  | .l_right => ["_law_jar_here"]
  | .l_middles_right => ["_law_jar_here"]
  | .l_dip => ["_law_jar_here", "_law_many"]
  | .qmiddle => ["one", "two", "three"]
  | .qcheck_number => ["thing"]
  | .qis_whole => ["thing"]
  | .qmiddle_of => ["one", "two", "three"]
  | .l_is_whole => ["_law_thing"]
  | .l_rows => ["_law_jar_here", "_law_wide"]
  | .l_size => ["_law_jar_here", "_law_most"]
  | .qGround_init => ["self", "rows"]
  | .qcheck_rows => ["rows"]
  | .qis_row => ["thing", "many"]
  | .l_floors => ["_law_rows_here"]
  | .l_over => ["_law_rows_here"]
  | .qfloors => ["ground"]
  | .qcheck_ground => ["thing"]
  | .qfloors_of => ["rows"]
  | .qnext_rows => ["rows"]
  | .qtop => ["ground"]
  | .qtop_of => ["rows"]
  | .qGround_put => ["self", "spot", "number"]
  | .qcheck_spot => ["size", "thing"]
  | .qis_spot_of => ["size", "thing"]
  | .qis_within => ["thing", "low", "high"]
  | .l_jar => ["_law_cell_here"]
  | .l_cell => ["_law_script", "_law_k"]
  | .qGround_eq => ["self", "other"]
def nms : Q → List Str
  | .qlaw => ["_law_script", "_law_k"]
  | .l_right => ["_law_jar_here", "_law_rows_here", "_law_told", "_law_row", "_law_other", "_law_base", "_law_due"]
  | .l_middles_right => ["_law_jar_here", "_law_reach", "_law_some", "_law_found", "_law_a", "_law_b", "_law_c", "_law_k", "_law_told"]
  | .l_dip => ["_law_jar_here", "_law_many", "_law_state", "_law_digit"]
  | .qmiddle => ["one", "two", "three", "number"]
  | .qcheck_number => ["thing"]
  | .qis_whole => ["thing"]
  | .qmiddle_of => ["one", "two", "three"]
  | .l_is_whole => ["_law_thing"]
  | .l_rows => ["_law_jar_here", "_law_wide", "_law_row", "_law_reach", "_law_found", "_law_at"]
  | .l_size => ["_law_jar_here", "_law_most"]
  | .qGround_init => ["self", "rows"]
  | .qcheck_rows => ["rows", "place", "row"]
  | .qis_row => ["thing", "many", "one"]
  | .l_floors => ["_law_rows_here", "_law_found"]
  | .l_over => ["_law_rows_here", "_law_found", "_law_row", "_law_mine", "_law_lower", "_law_at"]
  | .qfloors => ["ground"]
  | .qcheck_ground => ["thing"]
  | .qfloors_of => ["rows", "found"]
  | .qnext_rows => ["rows", "found", "row", "numbers", "under", "at"]
  | .qtop => ["ground"]
  | .qtop_of => ["rows"]
  | .qGround_put => ["self", "spot", "number", "line", "here", "at"]
  | .qcheck_spot => ["size", "thing"]
  | .qis_spot_of => ["size", "thing", "row", "at"]
  | .qis_within => ["thing", "low", "high"]
  | .l_jar => ["_law_cell_here", "_law_digits"]
  | .l_cell => ["_law_script", "_law_k", "_law_mixed", "_law_cell_here"]
  | .qGround_eq => ["self", "other"]
def plT : Q → List ((Nat × List Nat) × List (Nat ⊕ T))
  | .qlaw => []
  | .l_right => []
  | .l_middles_right => []
  | .l_dip => []
  | .qmiddle => [((0, [0, 1, 2]), [.inl 1, .inl 2, .inl 0]), ((1, [0, 2]), [.inl 0, .inl 2, .inl 1])]
  | .qcheck_number => []
  | .qis_whole => []
  | .qmiddle_of => []
  | .l_is_whole => []
  | .l_rows => []
  | .l_size => []
  | .qGround_init => []
  | .qcheck_rows => []
  | .qis_row => []
  | .l_floors => []
  | .l_over => []
  | .qfloors => [((0, [3]), [.inl 0])]
  | .qcheck_ground => []
  | .qfloors_of => []
  | .qnext_rows => []
  | .qtop => [((0, [3]), [.inl 0])]
  | .qtop_of => []
  | .qGround_put => []
  | .qcheck_spot => []
  | .qis_spot_of => []
  | .qis_within => []
  | .l_jar => []
  | .l_cell => []
  | .qGround_eq => []
def qs : List Q := [.qlaw, .l_right, .l_middles_right, .l_dip, .qmiddle, .qcheck_number, .qis_whole, .qmiddle_of, .l_is_whole, .l_rows, .l_size, .qGround_init, .qcheck_rows, .qis_row, .l_floors, .l_over, .qfloors, .qcheck_ground, .qfloors_of, .qnext_rows, .qtop, .qtop_of, .qGround_put, .qcheck_spot, .qis_spot_of, .qis_within, .l_jar, .l_cell, .qGround_eq]
def cn : List Str := ["Ground"]
def ki : List Nat := [0]
def fT : List Str := ["rows", "size"]
def mT : List Str := ["put", "__eq__"]
def kT : List Str := ["three", "one", "two", "ground"]
def free : List Str := ["all", "divmod", "int", "range", "isinstance", "bool", "sorted", "tuple", "len", "enumerate", "repr", "abs", "max", "min"]
def fnT : List (Str × Q) := [(("law" : Str), (Q.qlaw)), (("_law_right" : Str), (Q.l_right)), (("_law_middles_right" : Str), (Q.l_middles_right)), (("_law_dip" : Str), (Q.l_dip)), (("middle" : Str), (Q.qmiddle)), (("check_number" : Str), (Q.qcheck_number)), (("is_whole" : Str), (Q.qis_whole)), (("middle_of" : Str), (Q.qmiddle_of)), (("_law_is_whole" : Str), (Q.l_is_whole)), (("_law_rows" : Str), (Q.l_rows)), (("_law_size" : Str), (Q.l_size)), (("check_rows" : Str), (Q.qcheck_rows)), (("is_row" : Str), (Q.qis_row)), (("_law_floors" : Str), (Q.l_floors)), (("_law_over" : Str), (Q.l_over)), (("floors" : Str), (Q.qfloors)), (("check_ground" : Str), (Q.qcheck_ground)), (("floors_of" : Str), (Q.qfloors_of)), (("next_rows" : Str), (Q.qnext_rows)), (("top" : Str), (Q.qtop)), (("top_of" : Str), (Q.qtop_of)), (("check_spot" : Str), (Q.qcheck_spot)), (("is_spot_of" : Str), (Q.qis_spot_of)), (("is_within" : Str), (Q.qis_within)), (("_law_jar" : Str), (Q.l_jar)), (("_law_cell" : Str), (Q.l_cell))]
def inT : List (Nat × Q) := [(0, .qGround_init)]
def meT : List ((Nat × Nat) × Q) := [((0, 0), .qGround_put), ((0, 1), .qGround_eq)]
def gT : List (Str × T) := [("MOST_SIZE", .int 12)]
def frz : List Nat := [0]
def mus : List (Nat × Nat) := [(183, 48), (162, 16), (143, 87), (154, 17), (148, 17), (105, 12), (99, 12), (131, 11)]
def body_qlaw : List (S Q) := [.ret (.prim .all false [.lc false (.tName 1) (.iRng (.con (.int 0)) (.prim .max2 false [.con (.int 2), .prim .min2 false [.prim .len false [.var 0], .con (.int 8)]])) [] (.call .l_right [.call .l_jar [.call .l_cell [.var 0, .var 1] [] []] [] []] [] []) [1]])]
def body_l_right : List (S Q) := [.iff (.not (.call .l_middles_right [.var 0] [] [])) [.ret (.con (.bl false))] [], .asg (.tName 1) (.call .l_rows [.var 0, .call .l_size [.var 0, .con (.int 12)] [] []] [] []), .asg (.tTup [.tName 5, .tName 6]) (.tup [.make 0 [.var 1] [] [], .prim .tuple false [.call .l_floors [.var 1] [] []]]), .for_ (.tName 2) (.iSeq (.lst false [.call .qfloors [.var 5] [] [], .call .qfloors [] [3] [.make 0 [.var 1] [] []], .call .qfloors [.var 5] [] []])) [.iff (.cmp .ne (.prim .repr false [.var 2]) (.prim .repr false [.var 6])) [.ret (.con (.bl false))] []], .iff (.cmp .ne (.lst false [.prim .repr false [.call .qtop [.var 5] [] []], .prim .repr false [.call .qtop [] [3] [.var 5]]]) (.bin .mul false (.lst false [.prim .repr false [.idx (.idx (.idx (.var 6) (.neg (.con (.int 1)))) (.con (.int 0))) (.con (.int 0))]]) (.con (.int 2)))) [.ret (.con (.bl false))] [], .asg (.tName 3) (.call .l_dip [.var 0, .prim .len false [.var 1]] [] []), .asg (.tName 4) (.meth (.var 5) 0 [.tup [.var 3, .call .l_dip [.var 0, .bin .add false (.var 3) (.con (.int 1))] [] []], .bin .sub false (.bin .add false (.idx (.idx (.idx (.var 6) (.neg (.con (.int 1)))) (.con (.int 0))) (.con (.int 0))) (.call .l_dip [.var 0, .con (.int 3)] [] [])) (.con (.int 1))] [] []), .iff (.or (.cmp .ne (.prim .repr false [.call .qfloors [.var 4] [] []]) (.prim .repr false [.prim .tuple false [.call .l_floors [.fld (.var 4) 0] [] []]])) (.cmp .ne (.prim .repr false [.call .qfloors [.var 5] [] []]) (.prim .repr false [.var 6]))) [.ret (.con (.bl false))] [], .ret (.and (.cmp .eq (.fld (.var 5) 0) (.var 1)) (.eqo 1 (.var 5) (.make 0 [.var 1] [] [])))]
def body_l_middles_right : List (S Q) := [.asg (.tName 1) (.idx (.lst false [.con (.int 1), .con (.int 2), .con (.int 50), .bin .pow false (.con (.int 10)) (.con (.int 39))]) (.call .l_dip [.var 0, .con (.int 4)] [] [])), .asg (.tName 2) (.lc true (.tName 7) (.iRng (.con (.int 0)) (.con (.int 3))) [] (.bin .sub false (.call .l_dip [.var 0, .bin .add false (.bin .mul false (.con (.int 2)) (.var 1)) (.con (.int 1))] [] []) (.var 1)) [7]), .iff (.cmp .eq (.call .l_dip [.var 0, .con (.int 3)] [] []) (.con (.int 0))) [.asg (.tSub (.var 2) (.con (.int 2))) (.idx (.var 2) (.call .l_dip [.var 0, .con (.int 2)] [] []))] [], .asg (.tTup [.tName 4, .tName 5, .tName 6]) (.var 2), .asg (.tName 3) (.lst false [.call .qmiddle [.var 4, .var 5, .var 6] [] [], .call .qmiddle [.var 4, .var 6, .var 5] [] [], .call .qmiddle [.var 5, .var 4, .var 6] [] [], .call .qmiddle [.var 5, .var 6, .var 4] [] [], .call .qmiddle [.var 6, .var 4, .var 5] [] [], .call .qmiddle [.var 6, .var 5, .var 4] [] []]), .asg (.tName 3) (.bin .add false (.var 3) (.lst false [.call .qmiddle [] [0, 1, 2] [.var 6, .var 4, .var 5], .call .qmiddle [.var 4] [0, 2] [.var 5, .var 6]])), .ret (.prim .all false [.lc false (.tName 8) (.iSeq (.var 3)) [] (.and (.call .l_is_whole [.var 8] [] []) (.cmp .eq (.var 8) (.idx (.prim .sorted false [.var 2]) (.con (.int 1))))) [8]])]
def body_l_dip : List (S Q) := [.asg (.tSub (.var 0) (.con (.int 2))) (.bin .add false (.idx (.var 0) (.con (.int 2))) (.con (.int 1))), .iff (.cmp .gt (.idx (.var 0) (.con (.int 0))) (.con (.int 0))) [.asg (.tTup [.tSub (.var 0) (.con (.int 0)), .tName 3]) (.prim .divmod false [.idx (.var 0) (.con (.int 0)), .var 1]), .ret (.var 3)] [], .asg (.tName 2) (.bin .mod false (.prim .int false [.idx (.var 0) (.con (.int 1))]) (.con (.int 1000000093))), .asg (.tSub (.var 0) (.con (.int 1))) (.bin .add false (.bin .mul false (.var 2) (.bin .add false (.bin .mod false (.prim .int false [.var 2]) (.con (.int 47017))) (.con (.int 30011)))) (.bin .mul false (.con (.int 80021)) (.idx (.var 0) (.con (.int 2))))), .ret (.bin .mod false (.prim .int false [.bin .fdiv false (.bin .mod false (.prim .int false [.idx (.var 0) (.con (.int 1))]) (.con (.int 1000000093))) (.con (.int 32))]) (.var 1))]
def body_qmiddle : List (S Q) := [.for_ (.tName 3) (.iSeq (.tup [.var 0, .var 1, .var 2])) [.expr (.call .qcheck_number [.var 3] [] [])], .ret (.call .qmiddle_of [.var 0, .var 1, .var 2] [] [])]
def body_qcheck_number : List (S Q) := [.iff (.not (.call .qis_whole [.var 0] [] [])) [.rai] []]
def body_qis_whole : List (S Q) := [.ret (.and (.isi (.var 0) .int) (.not (.isi (.var 0) .bool)))]
def body_qmiddle_of : List (S Q) := [.ret (.idx (.prim .sorted false [.lst false [.var 0, .var 1, .var 2]]) (.con (.int 1)))]
def body_l_is_whole : List (S Q) := [.ret (.and (.isi (.var 0) .int) (.not (.isi (.var 0) .bool)))]
def body_l_rows : List (S Q) := [.asg (.tTup [.tName 3, .tName 4]) (.tup [.idx (.lst false [.con (.int 1), .con (.int 1), .con (.int 2), .con (.int 4), .con (.int 200), .bin .pow false (.con (.int 10)) (.con (.int 39))]) (.call .l_dip [.var 0, .con (.int 6)] [] []), .lst true []]), .for_ (.tName 2) (.iRng (.con (.int 0)) (.var 1)) [.expr (.bm .append (.var 4) [.prim .tuple false [.lc false (.tName 5) (.iRng (.con (.int 0)) (.bin .add false (.var 2) (.con (.int 1)))) [] (.bin .sub false (.call .l_dip [.var 0, .bin .add false (.bin .mul false (.con (.int 2)) (.var 3)) (.con (.int 1))] [] []) (.var 3)) [5]]])], .ret (.prim .tuple false [.var 4])]
def body_l_size : List (S Q) := [.ret (.idx (.lst false [.bin .add false (.con (.int 2)) (.call .l_dip [.var 0, .con (.int 4)] [] []), .bin .add false (.con (.int 1)) (.call .l_dip [.var 0, .var 1] [] [])]) (.call .l_dip [.var 0, .con (.int 2)] [] []))]
def body_qGround_init : List (S Q) := [.expr (.call .qcheck_rows [.var 1] [] []), .asg (.tFld (.var 0) 1) (.prim .len false [.var 1]), .asg (.tFld (.var 0) 0) (.var 1)]
def body_qcheck_rows : List (S Q) := [.iff (.or (.not (.isi (.var 0) .tup)) (.not (.cmp2 .le .le (.con (.int 1)) (.prim .len false [.var 0]) (.glob 0)))) [.rai] [], .for_ (.tTup [.tName 1, .tName 2]) (.iEnum 0 (.var 0)) [.iff (.not (.call .qis_row [.var 2, .bin .add false (.var 1) (.con (.int 1))] [] [])) [.rai] []]]
def body_qis_row : List (S Q) := [.ret (.and (.isi (.var 0) .tup) (.and (.cmp .eq (.prim .len false [.var 0]) (.var 1)) (.prim .all false [.lc false (.tName 2) (.iSeq (.var 0)) [] (.call .qis_whole [.var 2] [] []) [2]])))]
def body_l_floors : List (S Q) := [.asg (.tName 1) (.lst true [.var 0]), .whl (.cmp .gt (.prim .len false [.idx (.var 1) (.neg (.con (.int 1)))]) (.con (.int 1))) [.expr (.bm .append (.var 1) [.call .l_over [.idx (.var 1) (.neg (.con (.int 1)))] [] []])], .ret (.var 1)]
def body_l_over : List (S Q) := [.asg (.tName 1) (.lst true []), .for_ (.tName 2) (.iRng (.con (.int 0)) (.bin .sub false (.prim .len false [.var 0]) (.con (.int 1)))) [.asg (.tTup [.tName 3, .tName 4]) (.tup [.idx (.var 0) (.var 2), .idx (.var 0) (.bin .add false (.var 2) (.con (.int 1)))]), .expr (.bm .append (.var 1) [.prim .tuple false [.lc false (.tName 5) (.iRng (.con (.int 0)) (.bin .add false (.var 2) (.con (.int 1)))) [] (.idx (.prim .sorted false [.lst false [.idx (.var 3) (.var 5), .idx (.var 4) (.var 5), .idx (.var 4) (.bin .add false (.var 5) (.con (.int 1)))]]) (.con (.int 1))) [5]]])], .ret (.prim .tuple false [.var 1])]
def body_qfloors : List (S Q) := [.expr (.call .qcheck_ground [.var 0] [] []), .ret (.call .qfloors_of [.fld (.var 0) 0] [] [])]
def body_qcheck_ground : List (S Q) := [.iff (.not (.isi (.var 0) (.cls 0))) [.rai] []]
def body_qfloors_of : List (S Q) := [.asg (.tName 1) (.lst true [.var 0]), .whl (.cmp .gt (.prim .len false [.idx (.var 1) (.neg (.con (.int 1)))]) (.con (.int 1))) [.expr (.bm .append (.var 1) [.call .qnext_rows [.idx (.var 1) (.neg (.con (.int 1)))] [] []])], .ret (.prim .tuple false [.var 1])]
def body_qnext_rows : List (S Q) := [.asg (.tName 1) (.lst true []), .for_ (.tTup [.tName 2, .tName 3]) (.iEnum 0 (.slc false (.var 0) none (some (.neg (.con (.int 1)))))) [.asg (.tName 4) (.idx (.var 0) (.bin .add false (.var 2) (.con (.int 1)))), .expr (.bm .append (.var 1) [.prim .tuple false [.lc false (.tName 5) (.iRng (.con (.int 0)) (.bin .add false (.var 2) (.con (.int 1)))) [] (.call .qmiddle_of [.idx (.var 3) (.var 5), .idx (.var 4) (.var 5), .idx (.var 4) (.bin .add false (.var 5) (.con (.int 1)))] [] []) [5]]])], .ret (.prim .tuple false [.var 1])]
def body_qtop : List (S Q) := [.expr (.call .qcheck_ground [.var 0] [] []), .ret (.call .qtop_of [.fld (.var 0) 0] [] [])]
def body_qtop_of : List (S Q) := [.ret (.idx (.idx (.idx (.call .qfloors_of [.var 0] [] []) (.neg (.con (.int 1)))) (.con (.int 0))) (.con (.int 0)))]
def body_qGround_put : List (S Q) := [.expr (.call .qcheck_spot [.fld (.var 0) 1, .var 1] [] []), .expr (.call .qcheck_number [.var 2] [] []), .asg (.tTup [.tName 4, .tName 5]) (.var 1), .asg (.tName 3) (.idx (.fld (.var 0) 0) (.var 4)), .ret (.make 0 [.bin .add false (.bin .add false (.slc false (.fld (.var 0) 0) none (some (.var 4))) (.tup [.bin .add false (.bin .add false (.slc false (.var 3) none (some (.var 5))) (.tup [.var 2])) (.slc false (.var 3) (some (.bin .add false (.var 5) (.con (.int 1)))) none)])) (.slc false (.fld (.var 0) 0) (some (.bin .add false (.var 4) (.con (.int 1)))) none)] [] [])]
def body_qcheck_spot : List (S Q) := [.iff (.not (.call .qis_spot_of [.var 0, .var 1] [] [])) [.rai] []]
def body_qis_spot_of : List (S Q) := [.iff (.or (.not (.isi (.var 1) .tup)) (.cmp .ne (.prim .len false [.var 1]) (.con (.int 2)))) [.ret (.con (.bl false))] [], .asg (.tTup [.tName 2, .tName 3]) (.var 1), .ret (.and (.call .qis_within [.var 2, .con (.int 0), .bin .sub false (.var 0) (.con (.int 1))] [] []) (.call .qis_within [.var 3, .con (.int 0), .var 2] [] []))]
def body_qis_within : List (S Q) := [.ret (.and (.call .qis_whole [.var 0] [] []) (.cmp2 .le .le (.var 1) (.var 0) (.var 2)))]
def body_l_jar : List (S Q) := [.asg (.tName 1) (.bin .mul false (.prim .abs false [.var 0]) (.prim .int false [.or (.cmp .lt (.var 0) (.con (.int 0))) (.cmp .ge (.var 0) (.bin .pow false (.con (.int 10)) (.con (.int 18))))])), .ret (.lst true [.var 1, .bin .add false (.bin .mul false (.bin .mod false (.var 0) (.con (.int 1000000093))) (.con (.int 6011))) (.con (.int 90019)), .con (.int 0)])]
def body_l_cell : List (S Q) := [.iff (.cmp .lt (.var 1) (.prim .len false [.var 0])) [.ret (.idx (.var 0) (.var 1))] [], .asg (.tName 2) (.bin .mod false (.bin .mul false (.con (.int 60029)) (.bin .add false (.bin .add false (.bin .mul false (.var 1) (.var 1)) (.bin .mul false (.con (.int 5)) (.var 1))) (.con (.int 17)))) (.con (.int 1000000093))), .for_ (.tName 3) (.iSeq (.slc false (.var 0) none (some (.con (.int 4))))) [.asg (.tName 2) (.bin .mod false (.bin .add false (.bin .mul false (.var 2) (.con (.int 50023))) (.var 3)) (.con (.int 1000000093)))], .ret (.var 2)]
def body_qGround_eq : List (S Q) := [.ret (.and (.isi (.var 1) (.cls 0)) (.cmp .eq (.fld (.var 0) 0) (.fld (.var 1) 0)))]
def fnB : Q → Fn Q
  | .qlaw => ⟨1, 1, .pure, body_qlaw⟩
  | .l_right => ⟨1, 6, .shared, body_l_right⟩
  | .l_middles_right => ⟨1, 8, .shared, body_l_middles_right⟩
  | .l_dip => ⟨2, 2, .shared, body_l_dip⟩
  | .qmiddle => ⟨3, 1, .pure, body_qmiddle⟩
  | .qcheck_number => ⟨1, 0, .pure, body_qcheck_number⟩
  | .qis_whole => ⟨1, 0, .pure, body_qis_whole⟩
  | .qmiddle_of => ⟨3, 0, .pure, body_qmiddle_of⟩
  | .l_is_whole => ⟨1, 0, .pure, body_l_is_whole⟩
  | .l_rows => ⟨2, 4, .shared, body_l_rows⟩
  | .l_size => ⟨2, 0, .shared, body_l_size⟩
  | .qGround_init => ⟨2, 0, .keep, body_qGround_init⟩
  | .qcheck_rows => ⟨1, 2, .pure, body_qcheck_rows⟩
  | .qis_row => ⟨2, 1, .pure, body_qis_row⟩
  | .l_floors => ⟨1, 1, .pure, body_l_floors⟩
  | .l_over => ⟨1, 5, .pure, body_l_over⟩
  | .qfloors => ⟨1, 0, .pure, body_qfloors⟩
  | .qcheck_ground => ⟨1, 0, .pure, body_qcheck_ground⟩
  | .qfloors_of => ⟨1, 1, .pure, body_qfloors_of⟩
  | .qnext_rows => ⟨1, 5, .pure, body_qnext_rows⟩
  | .qtop => ⟨1, 0, .pure, body_qtop⟩
  | .qtop_of => ⟨1, 0, .pure, body_qtop_of⟩
  | .qGround_put => ⟨3, 3, .pure, body_qGround_put⟩
  | .qcheck_spot => ⟨2, 0, .pure, body_qcheck_spot⟩
  | .qis_spot_of => ⟨2, 2, .pure, body_qis_spot_of⟩
  | .qis_within => ⟨3, 0, .pure, body_qis_within⟩
  | .l_jar => ⟨1, 1, .keep, body_l_jar⟩
  | .l_cell => ⟨2, 2, .pure, body_l_cell⟩
  | .qGround_eq => ⟨2, 0, .pure, body_qGround_eq⟩
def b : Lw Q where
  fnB := fnB
  dd := dd
  ps := ps
  nms := nms
  qs := qs
  cn := cn
  ki := ki
  fT := fT
  mT := mT
  kT := kT
  free := free
  fnT := fnT
  inT := inT
  meT := meT
  plT := plT
  gT := gT
  frz := frz
  mus := mus
theorem sc_qlaw : FnScope (nms .qlaw) (ps .qlaw) (defScope (st .qlaw)) := ⟨rfl, rfl, rfl, by decide +kernel, rfl, by decide +kernel, by decide +kernel⟩
theorem sc_l_right : FnScope (nms .l_right) (ps .l_right) (defScope (st .l_right)) := ⟨rfl, rfl, rfl, by decide +kernel, rfl, by decide +kernel, by decide +kernel⟩
theorem sc_l_middles_right : FnScope (nms .l_middles_right) (ps .l_middles_right) (defScope (st .l_middles_right)) := ⟨rfl, rfl, rfl, by decide +kernel, rfl, by decide +kernel, by decide +kernel⟩
theorem sc_l_dip : FnScope (nms .l_dip) (ps .l_dip) (defScope (st .l_dip)) := ⟨rfl, rfl, rfl, by decide +kernel, rfl, by decide +kernel, by decide +kernel⟩
theorem sc_qmiddle : FnScope (nms .qmiddle) (ps .qmiddle) (defScope (st .qmiddle)) := ⟨rfl, rfl, rfl, by decide +kernel, rfl, by decide +kernel, by decide +kernel⟩
theorem sc_qcheck_number : FnScope (nms .qcheck_number) (ps .qcheck_number) (defScope (st .qcheck_number)) := ⟨rfl, rfl, rfl, by decide +kernel, rfl, by decide +kernel, by decide +kernel⟩
theorem sc_qis_whole : FnScope (nms .qis_whole) (ps .qis_whole) (defScope (st .qis_whole)) := ⟨rfl, rfl, rfl, by decide +kernel, rfl, by decide +kernel, by decide +kernel⟩
theorem sc_qmiddle_of : FnScope (nms .qmiddle_of) (ps .qmiddle_of) (defScope (st .qmiddle_of)) := ⟨rfl, rfl, rfl, by decide +kernel, rfl, by decide +kernel, by decide +kernel⟩
theorem sc_l_is_whole : FnScope (nms .l_is_whole) (ps .l_is_whole) (defScope (st .l_is_whole)) := ⟨rfl, rfl, rfl, by decide +kernel, rfl, by decide +kernel, by decide +kernel⟩
theorem sc_l_rows : FnScope (nms .l_rows) (ps .l_rows) (defScope (st .l_rows)) := ⟨rfl, rfl, rfl, by decide +kernel, rfl, by decide +kernel, by decide +kernel⟩
theorem sc_l_size : FnScope (nms .l_size) (ps .l_size) (defScope (st .l_size)) := ⟨rfl, rfl, rfl, by decide +kernel, rfl, by decide +kernel, by decide +kernel⟩
theorem sc_qGround_init : FnScope (nms .qGround_init) (ps .qGround_init) (defScope (st .qGround_init)) := ⟨rfl, rfl, rfl, by decide +kernel, rfl, by decide +kernel, by decide +kernel⟩
theorem sc_qcheck_rows : FnScope (nms .qcheck_rows) (ps .qcheck_rows) (defScope (st .qcheck_rows)) := ⟨rfl, rfl, rfl, by decide +kernel, rfl, by decide +kernel, by decide +kernel⟩
theorem sc_qis_row : FnScope (nms .qis_row) (ps .qis_row) (defScope (st .qis_row)) := ⟨rfl, rfl, rfl, by decide +kernel, rfl, by decide +kernel, by decide +kernel⟩
theorem sc_l_floors : FnScope (nms .l_floors) (ps .l_floors) (defScope (st .l_floors)) := ⟨rfl, rfl, rfl, by decide +kernel, rfl, by decide +kernel, by decide +kernel⟩
theorem sc_l_over : FnScope (nms .l_over) (ps .l_over) (defScope (st .l_over)) := ⟨rfl, rfl, rfl, by decide +kernel, rfl, by decide +kernel, by decide +kernel⟩
theorem sc_qfloors : FnScope (nms .qfloors) (ps .qfloors) (defScope (st .qfloors)) := ⟨rfl, rfl, rfl, by decide +kernel, rfl, by decide +kernel, by decide +kernel⟩
theorem sc_qcheck_ground : FnScope (nms .qcheck_ground) (ps .qcheck_ground) (defScope (st .qcheck_ground)) := ⟨rfl, rfl, rfl, by decide +kernel, rfl, by decide +kernel, by decide +kernel⟩
theorem sc_qfloors_of : FnScope (nms .qfloors_of) (ps .qfloors_of) (defScope (st .qfloors_of)) := ⟨rfl, rfl, rfl, by decide +kernel, rfl, by decide +kernel, by decide +kernel⟩
theorem sc_qnext_rows : FnScope (nms .qnext_rows) (ps .qnext_rows) (defScope (st .qnext_rows)) := ⟨rfl, rfl, rfl, by decide +kernel, rfl, by decide +kernel, by decide +kernel⟩
theorem sc_qtop : FnScope (nms .qtop) (ps .qtop) (defScope (st .qtop)) := ⟨rfl, rfl, rfl, by decide +kernel, rfl, by decide +kernel, by decide +kernel⟩
theorem sc_qtop_of : FnScope (nms .qtop_of) (ps .qtop_of) (defScope (st .qtop_of)) := ⟨rfl, rfl, rfl, by decide +kernel, rfl, by decide +kernel, by decide +kernel⟩
theorem sc_qGround_put : FnScope (nms .qGround_put) (ps .qGround_put) (defScope (st .qGround_put)) := ⟨rfl, rfl, rfl, by decide +kernel, rfl, by decide +kernel, by decide +kernel⟩
theorem sc_qcheck_spot : FnScope (nms .qcheck_spot) (ps .qcheck_spot) (defScope (st .qcheck_spot)) := ⟨rfl, rfl, rfl, by decide +kernel, rfl, by decide +kernel, by decide +kernel⟩
theorem sc_qis_spot_of : FnScope (nms .qis_spot_of) (ps .qis_spot_of) (defScope (st .qis_spot_of)) := ⟨rfl, rfl, rfl, by decide +kernel, rfl, by decide +kernel, by decide +kernel⟩
theorem sc_qis_within : FnScope (nms .qis_within) (ps .qis_within) (defScope (st .qis_within)) := ⟨rfl, rfl, rfl, by decide +kernel, rfl, by decide +kernel, by decide +kernel⟩
theorem sc_l_jar : FnScope (nms .l_jar) (ps .l_jar) (defScope (st .l_jar)) := ⟨rfl, rfl, rfl, by decide +kernel, rfl, by decide +kernel, by decide +kernel⟩
theorem sc_l_cell : FnScope (nms .l_cell) (ps .l_cell) (defScope (st .l_cell)) := ⟨rfl, rfl, rfl, by decide +kernel, rfl, by decide +kernel, by decide +kernel⟩
theorem sc_qGround_eq : FnScope (nms .qGround_eq) (ps .qGround_eq) (defScope (st .qGround_eq)) := ⟨rfl, rfl, rfl, by decide +kernel, rfl, by decide +kernel, by decide +kernel⟩
theorem sc : ∀ q : Q, FnScope (b.nms q) (b.ps q) (b.dd q).scope
  | .qlaw => sc_qlaw
  | .l_right => sc_l_right
  | .l_middles_right => sc_l_middles_right
  | .l_dip => sc_l_dip
  | .qmiddle => sc_qmiddle
  | .qcheck_number => sc_qcheck_number
  | .qis_whole => sc_qis_whole
  | .qmiddle_of => sc_qmiddle_of
  | .l_is_whole => sc_l_is_whole
  | .l_rows => sc_l_rows
  | .l_size => sc_l_size
  | .qGround_init => sc_qGround_init
  | .qcheck_rows => sc_qcheck_rows
  | .qis_row => sc_qis_row
  | .l_floors => sc_l_floors
  | .l_over => sc_l_over
  | .qfloors => sc_qfloors
  | .qcheck_ground => sc_qcheck_ground
  | .qfloors_of => sc_qfloors_of
  | .qnext_rows => sc_qnext_rows
  | .qtop => sc_qtop
  | .qtop_of => sc_qtop_of
  | .qGround_put => sc_qGround_put
  | .qcheck_spot => sc_qcheck_spot
  | .qis_spot_of => sc_qis_spot_of
  | .qis_within => sc_qis_within
  | .l_jar => sc_l_jar
  | .l_cell => sc_l_cell
  | .qGround_eq => sc_qGround_eq
theorem tr_qlaw : trSs (trE 40) (fnTx b.Γ (nms .qlaw) (defScope (st .qlaw))) 100 (defBody (st .qlaw)) = some body_qlaw := by kernel_rfl
theorem tr_l_right : trSs (trE 40) (fnTx b.Γ (nms .l_right) (defScope (st .l_right))) 100 (defBody (st .l_right)) = some body_l_right := by kernel_rfl
theorem tr_l_middles_right : trSs (trE 40) (fnTx b.Γ (nms .l_middles_right) (defScope (st .l_middles_right))) 100 (defBody (st .l_middles_right)) = some body_l_middles_right := by kernel_rfl
theorem tr_l_dip : trSs (trE 40) (fnTx b.Γ (nms .l_dip) (defScope (st .l_dip))) 100 (defBody (st .l_dip)) = some body_l_dip := by kernel_rfl
theorem tr_qmiddle : trSs (trE 40) (fnTx b.Γ (nms .qmiddle) (defScope (st .qmiddle))) 100 (defBody (st .qmiddle)) = some body_qmiddle := by kernel_rfl
theorem tr_qcheck_number : trSs (trE 40) (fnTx b.Γ (nms .qcheck_number) (defScope (st .qcheck_number))) 100 (defBody (st .qcheck_number)) = some body_qcheck_number := by kernel_rfl
theorem tr_qis_whole : trSs (trE 40) (fnTx b.Γ (nms .qis_whole) (defScope (st .qis_whole))) 100 (defBody (st .qis_whole)) = some body_qis_whole := by kernel_rfl
theorem tr_qmiddle_of : trSs (trE 40) (fnTx b.Γ (nms .qmiddle_of) (defScope (st .qmiddle_of))) 100 (defBody (st .qmiddle_of)) = some body_qmiddle_of := by kernel_rfl
theorem tr_l_is_whole : trSs (trE 40) (fnTx b.Γ (nms .l_is_whole) (defScope (st .l_is_whole))) 100 (defBody (st .l_is_whole)) = some body_l_is_whole := by kernel_rfl
theorem tr_l_rows : trSs (trE 40) (fnTx b.Γ (nms .l_rows) (defScope (st .l_rows))) 100 (defBody (st .l_rows)) = some body_l_rows := by kernel_rfl
theorem tr_l_size : trSs (trE 40) (fnTx b.Γ (nms .l_size) (defScope (st .l_size))) 100 (defBody (st .l_size)) = some body_l_size := by kernel_rfl
theorem tr_qGround_init : trSs (trE 40) (fnTx b.Γ (nms .qGround_init) (defScope (st .qGround_init))) 100 (defBody (st .qGround_init)) = some body_qGround_init := by kernel_rfl
theorem tr_qcheck_rows : trSs (trE 40) (fnTx b.Γ (nms .qcheck_rows) (defScope (st .qcheck_rows))) 100 (defBody (st .qcheck_rows)) = some body_qcheck_rows := by kernel_rfl
theorem tr_qis_row : trSs (trE 40) (fnTx b.Γ (nms .qis_row) (defScope (st .qis_row))) 100 (defBody (st .qis_row)) = some body_qis_row := by kernel_rfl
theorem tr_l_floors : trSs (trE 40) (fnTx b.Γ (nms .l_floors) (defScope (st .l_floors))) 100 (defBody (st .l_floors)) = some body_l_floors := by kernel_rfl
theorem tr_l_over : trSs (trE 40) (fnTx b.Γ (nms .l_over) (defScope (st .l_over))) 100 (defBody (st .l_over)) = some body_l_over := by kernel_rfl
theorem tr_qfloors : trSs (trE 40) (fnTx b.Γ (nms .qfloors) (defScope (st .qfloors))) 100 (defBody (st .qfloors)) = some body_qfloors := by kernel_rfl
theorem tr_qcheck_ground : trSs (trE 40) (fnTx b.Γ (nms .qcheck_ground) (defScope (st .qcheck_ground))) 100 (defBody (st .qcheck_ground)) = some body_qcheck_ground := by kernel_rfl
theorem tr_qfloors_of : trSs (trE 40) (fnTx b.Γ (nms .qfloors_of) (defScope (st .qfloors_of))) 100 (defBody (st .qfloors_of)) = some body_qfloors_of := by kernel_rfl
theorem tr_qnext_rows : trSs (trE 40) (fnTx b.Γ (nms .qnext_rows) (defScope (st .qnext_rows))) 100 (defBody (st .qnext_rows)) = some body_qnext_rows := by kernel_rfl
theorem tr_qtop : trSs (trE 40) (fnTx b.Γ (nms .qtop) (defScope (st .qtop))) 100 (defBody (st .qtop)) = some body_qtop := by kernel_rfl
theorem tr_qtop_of : trSs (trE 40) (fnTx b.Γ (nms .qtop_of) (defScope (st .qtop_of))) 100 (defBody (st .qtop_of)) = some body_qtop_of := by kernel_rfl
theorem tr_qGround_put : trSs (trE 40) (fnTx b.Γ (nms .qGround_put) (defScope (st .qGround_put))) 100 (defBody (st .qGround_put)) = some body_qGround_put := by kernel_rfl
theorem tr_qcheck_spot : trSs (trE 40) (fnTx b.Γ (nms .qcheck_spot) (defScope (st .qcheck_spot))) 100 (defBody (st .qcheck_spot)) = some body_qcheck_spot := by kernel_rfl
theorem tr_qis_spot_of : trSs (trE 40) (fnTx b.Γ (nms .qis_spot_of) (defScope (st .qis_spot_of))) 100 (defBody (st .qis_spot_of)) = some body_qis_spot_of := by kernel_rfl
theorem tr_qis_within : trSs (trE 40) (fnTx b.Γ (nms .qis_within) (defScope (st .qis_within))) 100 (defBody (st .qis_within)) = some body_qis_within := by kernel_rfl
theorem tr_l_jar : trSs (trE 40) (fnTx b.Γ (nms .l_jar) (defScope (st .l_jar))) 100 (defBody (st .l_jar)) = some body_l_jar := by kernel_rfl
theorem tr_l_cell : trSs (trE 40) (fnTx b.Γ (nms .l_cell) (defScope (st .l_cell))) 100 (defBody (st .l_cell)) = some body_l_cell := by kernel_rfl
theorem tr_qGround_eq : trSs (trE 40) (fnTx b.Γ (nms .qGround_eq) (defScope (st .qGround_eq))) 100 (defBody (st .qGround_eq)) = some body_qGround_eq := by kernel_rfl
theorem tr : ∀ q : Q, trSs (trE 40) (fnTx b.Γ (b.nms q) (b.dd q).scope) 100 (b.dd q).body = some (b.fnB q).body
  | .qlaw => tr_qlaw
  | .l_right => tr_l_right
  | .l_middles_right => tr_l_middles_right
  | .l_dip => tr_l_dip
  | .qmiddle => tr_qmiddle
  | .qcheck_number => tr_qcheck_number
  | .qis_whole => tr_qis_whole
  | .qmiddle_of => tr_qmiddle_of
  | .l_is_whole => tr_l_is_whole
  | .l_rows => tr_l_rows
  | .l_size => tr_l_size
  | .qGround_init => tr_qGround_init
  | .qcheck_rows => tr_qcheck_rows
  | .qis_row => tr_qis_row
  | .l_floors => tr_l_floors
  | .l_over => tr_l_over
  | .qfloors => tr_qfloors
  | .qcheck_ground => tr_qcheck_ground
  | .qfloors_of => tr_qfloors_of
  | .qnext_rows => tr_qnext_rows
  | .qtop => tr_qtop
  | .qtop_of => tr_qtop_of
  | .qGround_put => tr_qGround_put
  | .qcheck_spot => tr_qcheck_spot
  | .qis_spot_of => tr_qis_spot_of
  | .qis_within => tr_qis_within
  | .l_jar => tr_l_jar
  | .l_cell => tr_l_cell
  | .qGround_eq => tr_qGround_eq
theorem bz_qlaw : b.B0 .qlaw := fun K fd F => kb_all F fun _ _ _ _ _ _ us hl => match us, hl with | [_], _ => rfl
theorem bz_l_right : b.B0 .l_right := fun K fd F => kb_all F fun _ _ _ _ _ _ us hl => match us, hl with | [_], _ => rfl
theorem bz_l_middles_right : b.B0 .l_middles_right := fun K fd F => kb_all F fun _ _ _ _ _ _ us hl => match us, hl with | [_], _ => rfl
theorem bz_l_dip : b.B0 .l_dip := fun K fd F => kb_all F fun _ _ _ _ _ _ us hl => match us, hl with | [_, _], _ => rfl
theorem bz_qmiddle : b.B0 .qmiddle := fun K fd F => kb_all F fun _ _ _ _ _ _ us hl => match us, hl with | [_, _, _], _ => rfl
theorem bz_qcheck_number : b.B0 .qcheck_number := fun K fd F => kb_all F fun _ _ _ _ _ _ us hl => match us, hl with | [_], _ => rfl
theorem bz_qis_whole : b.B0 .qis_whole := fun K fd F => kb_all F fun _ _ _ _ _ _ us hl => match us, hl with | [_], _ => rfl
theorem bz_qmiddle_of : b.B0 .qmiddle_of := fun K fd F => kb_all F fun _ _ _ _ _ _ us hl => match us, hl with | [_, _, _], _ => rfl
theorem bz_l_is_whole : b.B0 .l_is_whole := fun K fd F => kb_all F fun _ _ _ _ _ _ us hl => match us, hl with | [_], _ => rfl
theorem bz_l_rows : b.B0 .l_rows := fun K fd F => kb_all F fun _ _ _ _ _ _ us hl => match us, hl with | [_, _], _ => rfl
theorem bz_l_size : b.B0 .l_size := fun K fd F => kb_all F fun _ _ _ _ _ _ us hl => match us, hl with | [_, _], _ => rfl
theorem bz_qGround_init : b.B0 .qGround_init := fun K fd F => kb_all F fun _ _ _ _ _ _ us hl => match us, hl with | [_, _], _ => rfl
theorem bz_qcheck_rows : b.B0 .qcheck_rows := fun K fd F => kb_all F fun _ _ _ _ _ _ us hl => match us, hl with | [_], _ => rfl
theorem bz_qis_row : b.B0 .qis_row := fun K fd F => kb_all F fun _ _ _ _ _ _ us hl => match us, hl with | [_, _], _ => rfl
theorem bz_l_floors : b.B0 .l_floors := fun K fd F => kb_all F fun _ _ _ _ _ _ us hl => match us, hl with | [_], _ => rfl
theorem bz_l_over : b.B0 .l_over := fun K fd F => kb_all F fun _ _ _ _ _ _ us hl => match us, hl with | [_], _ => rfl
theorem bz_qfloors : b.B0 .qfloors := fun K fd F => kb_all F fun _ _ _ _ _ _ us hl => match us, hl with | [_], _ => rfl
theorem bz_qcheck_ground : b.B0 .qcheck_ground := fun K fd F => kb_all F fun _ _ _ _ _ _ us hl => match us, hl with | [_], _ => rfl
theorem bz_qfloors_of : b.B0 .qfloors_of := fun K fd F => kb_all F fun _ _ _ _ _ _ us hl => match us, hl with | [_], _ => rfl
theorem bz_qnext_rows : b.B0 .qnext_rows := fun K fd F => kb_all F fun _ _ _ _ _ _ us hl => match us, hl with | [_], _ => rfl
theorem bz_qtop : b.B0 .qtop := fun K fd F => kb_all F fun _ _ _ _ _ _ us hl => match us, hl with | [_], _ => rfl
theorem bz_qtop_of : b.B0 .qtop_of := fun K fd F => kb_all F fun _ _ _ _ _ _ us hl => match us, hl with | [_], _ => rfl
theorem bz_qGround_put : b.B0 .qGround_put := fun K fd F => kb_all F fun _ _ _ _ _ _ us hl => match us, hl with | [_, _, _], _ => rfl
theorem bz_qcheck_spot : b.B0 .qcheck_spot := fun K fd F => kb_all F fun _ _ _ _ _ _ us hl => match us, hl with | [_, _], _ => rfl
theorem bz_qis_spot_of : b.B0 .qis_spot_of := fun K fd F => kb_all F fun _ _ _ _ _ _ us hl => match us, hl with | [_, _], _ => rfl
theorem bz_qis_within : b.B0 .qis_within := fun K fd F => kb_all F fun _ _ _ _ _ _ us hl => match us, hl with | [_, _, _], _ => rfl
theorem bz_l_jar : b.B0 .l_jar := fun K fd F => kb_all F fun _ _ _ _ _ _ us hl => match us, hl with | [_], _ => rfl
theorem bz_l_cell : b.B0 .l_cell := fun K fd F => kb_all F fun _ _ _ _ _ _ us hl => match us, hl with | [_, _], _ => rfl
theorem bz_qGround_eq : b.B0 .qGround_eq := fun K fd F => kb_all F fun _ _ _ _ _ _ us hl => match us, hl with | [_, _], _ => rfl
theorem bz : ∀ q : Q, b.B0 q
  | .qlaw => bz_qlaw
  | .l_right => bz_l_right
  | .l_middles_right => bz_l_middles_right
  | .l_dip => bz_l_dip
  | .qmiddle => bz_qmiddle
  | .qcheck_number => bz_qcheck_number
  | .qis_whole => bz_qis_whole
  | .qmiddle_of => bz_qmiddle_of
  | .l_is_whole => bz_l_is_whole
  | .l_rows => bz_l_rows
  | .l_size => bz_l_size
  | .qGround_init => bz_qGround_init
  | .qcheck_rows => bz_qcheck_rows
  | .qis_row => bz_qis_row
  | .l_floors => bz_l_floors
  | .l_over => bz_l_over
  | .qfloors => bz_qfloors
  | .qcheck_ground => bz_qcheck_ground
  | .qfloors_of => bz_qfloors_of
  | .qnext_rows => bz_qnext_rows
  | .qtop => bz_qtop
  | .qtop_of => bz_qtop_of
  | .qGround_put => bz_qGround_put
  | .qcheck_spot => bz_qcheck_spot
  | .qis_spot_of => bz_qis_spot_of
  | .qis_within => bz_qis_within
  | .l_jar => bz_l_jar
  | .l_cell => bz_l_cell
  | .qGround_eq => bz_qGround_eq
theorem by__qlaw : ∀ p ∈ b.plT .qlaw, b.B1 .qlaw p.1.1 p.1.2 p.2 := fun _ h => nomatch h
theorem by__l_right : ∀ p ∈ b.plT .l_right, b.B1 .l_right p.1.1 p.1.2 p.2 := fun _ h => nomatch h
theorem by__l_middles_right : ∀ p ∈ b.plT .l_middles_right, b.B1 .l_middles_right p.1.1 p.1.2 p.2 := fun _ h => nomatch h
theorem by__l_dip : ∀ p ∈ b.plT .l_dip, b.B1 .l_dip p.1.1 p.1.2 p.2 := fun _ h => nomatch h
theorem by__qmiddle : ∀ p ∈ b.plT .qmiddle, b.B1 .qmiddle p.1.1 p.1.2 p.2 := List.forall_mem_cons.mpr ⟨fun K fd F => kb_plan (ks := ["three", "one", "two"]) F [.inl 1, .inl 2, .inl 0] (by decide +kernel) fun _ _ _ _ _ _ us ws h1 h2 => match us, ws, h1, h2 with | [], [_, _, _], _, _ => rfl, List.forall_mem_cons.mpr ⟨fun K fd F => kb_plan (ks := ["three", "two"]) F [.inl 0, .inl 2, .inl 1] (by decide +kernel) fun _ _ _ _ _ _ us ws h1 h2 => match us, ws, h1, h2 with | [_], [_, _], _, _ => rfl, fun _ h => nomatch h⟩⟩
theorem by__qcheck_number : ∀ p ∈ b.plT .qcheck_number, b.B1 .qcheck_number p.1.1 p.1.2 p.2 := fun _ h => nomatch h
theorem by__qis_whole : ∀ p ∈ b.plT .qis_whole, b.B1 .qis_whole p.1.1 p.1.2 p.2 := fun _ h => nomatch h
theorem by__qmiddle_of : ∀ p ∈ b.plT .qmiddle_of, b.B1 .qmiddle_of p.1.1 p.1.2 p.2 := fun _ h => nomatch h
theorem by__l_is_whole : ∀ p ∈ b.plT .l_is_whole, b.B1 .l_is_whole p.1.1 p.1.2 p.2 := fun _ h => nomatch h
theorem by__l_rows : ∀ p ∈ b.plT .l_rows, b.B1 .l_rows p.1.1 p.1.2 p.2 := fun _ h => nomatch h
theorem by__l_size : ∀ p ∈ b.plT .l_size, b.B1 .l_size p.1.1 p.1.2 p.2 := fun _ h => nomatch h
theorem by__qGround_init : ∀ p ∈ b.plT .qGround_init, b.B1 .qGround_init p.1.1 p.1.2 p.2 := fun _ h => nomatch h
theorem by__qcheck_rows : ∀ p ∈ b.plT .qcheck_rows, b.B1 .qcheck_rows p.1.1 p.1.2 p.2 := fun _ h => nomatch h
theorem by__qis_row : ∀ p ∈ b.plT .qis_row, b.B1 .qis_row p.1.1 p.1.2 p.2 := fun _ h => nomatch h
theorem by__l_floors : ∀ p ∈ b.plT .l_floors, b.B1 .l_floors p.1.1 p.1.2 p.2 := fun _ h => nomatch h
theorem by__l_over : ∀ p ∈ b.plT .l_over, b.B1 .l_over p.1.1 p.1.2 p.2 := fun _ h => nomatch h
theorem by__qfloors : ∀ p ∈ b.plT .qfloors, b.B1 .qfloors p.1.1 p.1.2 p.2 := List.forall_mem_cons.mpr ⟨fun K fd F => kb_plan (ks := ["ground"]) F [.inl 0] (by decide +kernel) fun _ _ _ _ _ _ us ws h1 h2 => match us, ws, h1, h2 with | [], [_], _, _ => rfl, fun _ h => nomatch h⟩
theorem by__qcheck_ground : ∀ p ∈ b.plT .qcheck_ground, b.B1 .qcheck_ground p.1.1 p.1.2 p.2 := fun _ h => nomatch h
theorem by__qfloors_of : ∀ p ∈ b.plT .qfloors_of, b.B1 .qfloors_of p.1.1 p.1.2 p.2 := fun _ h => nomatch h
theorem by__qnext_rows : ∀ p ∈ b.plT .qnext_rows, b.B1 .qnext_rows p.1.1 p.1.2 p.2 := fun _ h => nomatch h
theorem by__qtop : ∀ p ∈ b.plT .qtop, b.B1 .qtop p.1.1 p.1.2 p.2 := List.forall_mem_cons.mpr ⟨fun K fd F => kb_plan (ks := ["ground"]) F [.inl 0] (by decide +kernel) fun _ _ _ _ _ _ us ws h1 h2 => match us, ws, h1, h2 with | [], [_], _, _ => rfl, fun _ h => nomatch h⟩
theorem by__qtop_of : ∀ p ∈ b.plT .qtop_of, b.B1 .qtop_of p.1.1 p.1.2 p.2 := fun _ h => nomatch h
theorem by__qGround_put : ∀ p ∈ b.plT .qGround_put, b.B1 .qGround_put p.1.1 p.1.2 p.2 := fun _ h => nomatch h
theorem by__qcheck_spot : ∀ p ∈ b.plT .qcheck_spot, b.B1 .qcheck_spot p.1.1 p.1.2 p.2 := fun _ h => nomatch h
theorem by__qis_spot_of : ∀ p ∈ b.plT .qis_spot_of, b.B1 .qis_spot_of p.1.1 p.1.2 p.2 := fun _ h => nomatch h
theorem by__qis_within : ∀ p ∈ b.plT .qis_within, b.B1 .qis_within p.1.1 p.1.2 p.2 := fun _ h => nomatch h
theorem by__l_jar : ∀ p ∈ b.plT .l_jar, b.B1 .l_jar p.1.1 p.1.2 p.2 := fun _ h => nomatch h
theorem by__l_cell : ∀ p ∈ b.plT .l_cell, b.B1 .l_cell p.1.1 p.1.2 p.2 := fun _ h => nomatch h
theorem by__qGround_eq : ∀ p ∈ b.plT .qGround_eq, b.B1 .qGround_eq p.1.1 p.1.2 p.2 := fun _ h => nomatch h
theorem by_ : ∀ q : Q, ∀ p ∈ b.plT q, b.B1 q p.1.1 p.1.2 p.2
  | .qlaw => by__qlaw
  | .l_right => by__l_right
  | .l_middles_right => by__l_middles_right
  | .l_dip => by__l_dip
  | .qmiddle => by__qmiddle
  | .qcheck_number => by__qcheck_number
  | .qis_whole => by__qis_whole
  | .qmiddle_of => by__qmiddle_of
  | .l_is_whole => by__l_is_whole
  | .l_rows => by__l_rows
  | .l_size => by__l_size
  | .qGround_init => by__qGround_init
  | .qcheck_rows => by__qcheck_rows
  | .qis_row => by__qis_row
  | .l_floors => by__l_floors
  | .l_over => by__l_over
  | .qfloors => by__qfloors
  | .qcheck_ground => by__qcheck_ground
  | .qfloors_of => by__qfloors_of
  | .qnext_rows => by__qnext_rows
  | .qtop => by__qtop
  | .qtop_of => by__qtop_of
  | .qGround_put => by__qGround_put
  | .qcheck_spot => by__qcheck_spot
  | .qis_spot_of => by__qis_spot_of
  | .qis_within => by__qis_within
  | .l_jar => by__l_jar
  | .l_cell => by__l_cell
  | .qGround_eq => by__qGround_eq
theorem ar : ∀ q : Q, (b.fnB q).arity = (b.ps q).length := fun q => by cases q <;> rfl
theorem nl : ∀ q : Q, (b.fnB q).nloc = (b.nms q).length - (b.ps q).length := fun q => by cases q <;> rfl
theorem qsA : ∀ q : Q, q ∈ b.qs := fun q => by cases q <;> decide +kernel
theorem txt : b.Txt := ⟨b.stat_ok (by decide +kernel), qsA, ar, nl, sc, tr, bz, by_⟩
end K13
namespace K13
open PySem Mt
abbrev P : Prog Q := b.P
section
variable (G : Q → List T → M T) (mk : Nat → Nat → List Nat → List T → M T)
def s_qlaw : List CS := [sRet (cPrim .all false [cLc false (gName 1) (cRng (cCon (.int 0)) (cPrim .max2 false [cCon (.int 2), cPrim .min2 false [cPrim .len false [cVar 0], cCon (.int 8)]])) [] (cCall P G .l_right [cCall P G .l_jar [cCall P G .l_cell [cVar 0, cVar 1] [] []] [] []] [] []) [1]])]
def s_l_right : List CS := [sIff (cNot (cCall P G .l_middles_right [cVar 0] [] [])) [sRet (cCon (.bl false))] [], sAsg (gName 1) (cCall P G .l_rows [cVar 0, cCall P G .l_size [cVar 0, cCon (.int 12)] [] []] [] []), sAsg (gTupC [gName 5, gName 6]) (cTup [cMake mk 0 [cVar 1] [] [], cPrim .tuple false [cCall P G .l_floors [cVar 1] [] []]]), sFor (gName 2) (cSeq (cLst false [cCall P G .qfloors [cVar 5] [] [], cCall P G .qfloors [] [3] [cMake mk 0 [cVar 1] [] []], cCall P G .qfloors [cVar 5] [] []])) [sIff (cCmp .ne (cPrim .repr false [cVar 2]) (cPrim .repr false [cVar 6])) [sRet (cCon (.bl false))] []], sIff (cCmp .ne (cLst false [cPrim .repr false [cCall P G .qtop [cVar 5] [] []], cPrim .repr false [cCall P G .qtop [] [3] [cVar 5]]]) (cBin .mul false (cLst false [cPrim .repr false [cIdx (cIdx (cIdx (cVar 6) (cNeg (cCon (.int 1)))) (cCon (.int 0))) (cCon (.int 0))]]) (cCon (.int 2)))) [sRet (cCon (.bl false))] [], sAsg (gName 3) (cCall P G .l_dip [cVar 0, cPrim .len false [cVar 1]] [] []), sAsg (gName 4) (cMeth P G (cVar 5) 0 [cTup [cVar 3, cCall P G .l_dip [cVar 0, cBin .add false (cVar 3) (cCon (.int 1))] [] []], cBin .sub false (cBin .add false (cIdx (cIdx (cIdx (cVar 6) (cNeg (cCon (.int 1)))) (cCon (.int 0))) (cCon (.int 0))) (cCall P G .l_dip [cVar 0, cCon (.int 3)] [] [])) (cCon (.int 1))] [] []), sIff (cOr (cCmp .ne (cPrim .repr false [cCall P G .qfloors [cVar 4] [] []]) (cPrim .repr false [cPrim .tuple false [cCall P G .l_floors [cFld (cVar 4) 0] [] []]])) (cCmp .ne (cPrim .repr false [cCall P G .qfloors [cVar 5] [] []]) (cPrim .repr false [cVar 6]))) [sRet (cCon (.bl false))] [], sRet (cAnd (cCmp .eq (cFld (cVar 5) 0) (cVar 1)) (cEqo P G 1 (cVar 5) (cMake mk 0 [cVar 1] [] [])))]
def s_l_middles_right : List CS := [sAsg (gName 1) (cIdx (cLst false [cCon (.int 1), cCon (.int 2), cCon (.int 50), cBin .pow false (cCon (.int 10)) (cCon (.int 39))]) (cCall P G .l_dip [cVar 0, cCon (.int 4)] [] [])), sAsg (gName 2) (cLc true (gName 7) (cRng (cCon (.int 0)) (cCon (.int 3))) [] (cBin .sub false (cCall P G .l_dip [cVar 0, cBin .add false (cBin .mul false (cCon (.int 2)) (cVar 1)) (cCon (.int 1))] [] []) (cVar 1)) [7]), sIff (cCmp .eq (cCall P G .l_dip [cVar 0, cCon (.int 3)] [] []) (cCon (.int 0))) [sAsg (gSubC (cVar 2) (cCon (.int 2))) (cIdx (cVar 2) (cCall P G .l_dip [cVar 0, cCon (.int 2)] [] []))] [], sAsg (gTupC [gName 4, gName 5, gName 6]) (cVar 2), sAsg (gName 3) (cLst false [cCall P G .qmiddle [cVar 4, cVar 5, cVar 6] [] [], cCall P G .qmiddle [cVar 4, cVar 6, cVar 5] [] [], cCall P G .qmiddle [cVar 5, cVar 4, cVar 6] [] [], cCall P G .qmiddle [cVar 5, cVar 6, cVar 4] [] [], cCall P G .qmiddle [cVar 6, cVar 4, cVar 5] [] [], cCall P G .qmiddle [cVar 6, cVar 5, cVar 4] [] []]), sAsg (gName 3) (cBin .add false (cVar 3) (cLst false [cCall P G .qmiddle [] [0, 1, 2] [cVar 6, cVar 4, cVar 5], cCall P G .qmiddle [cVar 4] [0, 2] [cVar 5, cVar 6]])), sRet (cPrim .all false [cLc false (gName 8) (cSeq (cVar 3)) [] (cAnd (cCall P G .l_is_whole [cVar 8] [] []) (cCmp .eq (cVar 8) (cIdx (cPrim .sorted false [cVar 2]) (cCon (.int 1))))) [8]])]
def s_l_dip : List CS := [sAsg (gSubC (cVar 0) (cCon (.int 2))) (cBin .add false (cIdx (cVar 0) (cCon (.int 2))) (cCon (.int 1))), sIff (cCmp .gt (cIdx (cVar 0) (cCon (.int 0))) (cCon (.int 0))) [sAsg (gTupC [gSubC (cVar 0) (cCon (.int 0)), gName 3]) (cPrim .divmod false [cIdx (cVar 0) (cCon (.int 0)), cVar 1]), sRet (cVar 3)] [], sAsg (gName 2) (cBin .mod false (cPrim .int false [cIdx (cVar 0) (cCon (.int 1))]) (cCon (.int 1000000093))), sAsg (gSubC (cVar 0) (cCon (.int 1))) (cBin .add false (cBin .mul false (cVar 2) (cBin .add false (cBin .mod false (cPrim .int false [cVar 2]) (cCon (.int 47017))) (cCon (.int 30011)))) (cBin .mul false (cCon (.int 80021)) (cIdx (cVar 0) (cCon (.int 2))))), sRet (cBin .mod false (cPrim .int false [cBin .fdiv false (cBin .mod false (cPrim .int false [cIdx (cVar 0) (cCon (.int 1))]) (cCon (.int 1000000093))) (cCon (.int 32))]) (cVar 1))]
def s_qmiddle : List CS := [sFor (gName 3) (cSeq (cTup [cVar 0, cVar 1, cVar 2])) [sExpr (cCall P G .qcheck_number [cVar 3] [] [])], sRet (cCall P G .qmiddle_of [cVar 0, cVar 1, cVar 2] [] [])]
def s_qcheck_number : List CS := [sIff (cNot (cCall P G .qis_whole [cVar 0] [] [])) [sRai] []]
def s_qis_whole : List CS := [sRet (cAnd (cIsi (cVar 0) .int) (cNot (cIsi (cVar 0) .bool)))]
def s_qmiddle_of : List CS := [sRet (cIdx (cPrim .sorted false [cLst false [cVar 0, cVar 1, cVar 2]]) (cCon (.int 1)))]
def s_l_is_whole : List CS := [sRet (cAnd (cIsi (cVar 0) .int) (cNot (cIsi (cVar 0) .bool)))]
def s_l_rows : List CS := [sAsg (gTupC [gName 3, gName 4]) (cTup [cIdx (cLst false [cCon (.int 1), cCon (.int 1), cCon (.int 2), cCon (.int 4), cCon (.int 200), cBin .pow false (cCon (.int 10)) (cCon (.int 39))]) (cCall P G .l_dip [cVar 0, cCon (.int 6)] [] []), cLst true []]), sFor (gName 2) (cRng (cCon (.int 0)) (cVar 1)) [sExpr (cBm .append (cVar 4) [cPrim .tuple false [cLc false (gName 5) (cRng (cCon (.int 0)) (cBin .add false (cVar 2) (cCon (.int 1)))) [] (cBin .sub false (cCall P G .l_dip [cVar 0, cBin .add false (cBin .mul false (cCon (.int 2)) (cVar 3)) (cCon (.int 1))] [] []) (cVar 3)) [5]]])], sRet (cPrim .tuple false [cVar 4])]
def s_l_size : List CS := [sRet (cIdx (cLst false [cBin .add false (cCon (.int 2)) (cCall P G .l_dip [cVar 0, cCon (.int 4)] [] []), cBin .add false (cCon (.int 1)) (cCall P G .l_dip [cVar 0, cVar 1] [] [])]) (cCall P G .l_dip [cVar 0, cCon (.int 2)] [] []))]
def s_qGround_init : List CS := [sExpr (cCall P G .qcheck_rows [cVar 1] [] []), sAsg (gFldC (cVar 0) 1) (cPrim .len false [cVar 1]), sAsg (gFldC (cVar 0) 0) (cVar 1)]
def s_qcheck_rows : List CS := [sIff (cOr (cNot (cIsi (cVar 0) .tup)) (cNot (cCmp2 .le .le (cCon (.int 1)) (cPrim .len false [cVar 0]) (cGlob P 0)))) [sRai] [], sFor (gTupC [gName 1, gName 2]) (cEnum 0 (cVar 0)) [sIff (cNot (cCall P G .qis_row [cVar 2, cBin .add false (cVar 1) (cCon (.int 1))] [] [])) [sRai] []]]
def s_qis_row : List CS := [sRet (cAnd (cIsi (cVar 0) .tup) (cAnd (cCmp .eq (cPrim .len false [cVar 0]) (cVar 1)) (cPrim .all false [cLc false (gName 2) (cSeq (cVar 0)) [] (cCall P G .qis_whole [cVar 2] [] []) [2]])))]
def s_l_floors : List CS := [sAsg (gName 1) (cLst true [cVar 0]), sWhl (cCmp .gt (cPrim .len false [cIdx (cVar 1) (cNeg (cCon (.int 1)))]) (cCon (.int 1))) [sExpr (cBm .append (cVar 1) [cCall P G .l_over [cIdx (cVar 1) (cNeg (cCon (.int 1)))] [] []])], sRet (cVar 1)]
def s_l_over : List CS := [sAsg (gName 1) (cLst true []), sFor (gName 2) (cRng (cCon (.int 0)) (cBin .sub false (cPrim .len false [cVar 0]) (cCon (.int 1)))) [sAsg (gTupC [gName 3, gName 4]) (cTup [cIdx (cVar 0) (cVar 2), cIdx (cVar 0) (cBin .add false (cVar 2) (cCon (.int 1)))]), sExpr (cBm .append (cVar 1) [cPrim .tuple false [cLc false (gName 5) (cRng (cCon (.int 0)) (cBin .add false (cVar 2) (cCon (.int 1)))) [] (cIdx (cPrim .sorted false [cLst false [cIdx (cVar 3) (cVar 5), cIdx (cVar 4) (cVar 5), cIdx (cVar 4) (cBin .add false (cVar 5) (cCon (.int 1)))]]) (cCon (.int 1))) [5]]])], sRet (cPrim .tuple false [cVar 1])]
def s_qfloors : List CS := [sExpr (cCall P G .qcheck_ground [cVar 0] [] []), sRet (cCall P G .qfloors_of [cFld (cVar 0) 0] [] [])]
def s_qcheck_ground : List CS := [sIff (cNot (cIsi (cVar 0) (.cls 0))) [sRai] []]
def s_qfloors_of : List CS := [sAsg (gName 1) (cLst true [cVar 0]), sWhl (cCmp .gt (cPrim .len false [cIdx (cVar 1) (cNeg (cCon (.int 1)))]) (cCon (.int 1))) [sExpr (cBm .append (cVar 1) [cCall P G .qnext_rows [cIdx (cVar 1) (cNeg (cCon (.int 1)))] [] []])], sRet (cPrim .tuple false [cVar 1])]
def s_qnext_rows : List CS := [sAsg (gName 1) (cLst true []), sFor (gTupC [gName 2, gName 3]) (cEnum 0 (cSlc false (cVar 0) none (some (cNeg (cCon (.int 1)))))) [sAsg (gName 4) (cIdx (cVar 0) (cBin .add false (cVar 2) (cCon (.int 1)))), sExpr (cBm .append (cVar 1) [cPrim .tuple false [cLc false (gName 5) (cRng (cCon (.int 0)) (cBin .add false (cVar 2) (cCon (.int 1)))) [] (cCall P G .qmiddle_of [cIdx (cVar 3) (cVar 5), cIdx (cVar 4) (cVar 5), cIdx (cVar 4) (cBin .add false (cVar 5) (cCon (.int 1)))] [] []) [5]]])], sRet (cPrim .tuple false [cVar 1])]
def s_qtop : List CS := [sExpr (cCall P G .qcheck_ground [cVar 0] [] []), sRet (cCall P G .qtop_of [cFld (cVar 0) 0] [] [])]
def s_qtop_of : List CS := [sRet (cIdx (cIdx (cIdx (cCall P G .qfloors_of [cVar 0] [] []) (cNeg (cCon (.int 1)))) (cCon (.int 0))) (cCon (.int 0)))]
def s_qGround_put : List CS := [sExpr (cCall P G .qcheck_spot [cFld (cVar 0) 1, cVar 1] [] []), sExpr (cCall P G .qcheck_number [cVar 2] [] []), sAsg (gTupC [gName 4, gName 5]) (cVar 1), sAsg (gName 3) (cIdx (cFld (cVar 0) 0) (cVar 4)), sRet (cMake mk 0 [cBin .add false (cBin .add false (cSlc false (cFld (cVar 0) 0) none (some (cVar 4))) (cTup [cBin .add false (cBin .add false (cSlc false (cVar 3) none (some (cVar 5))) (cTup [cVar 2])) (cSlc false (cVar 3) (some (cBin .add false (cVar 5) (cCon (.int 1)))) none)])) (cSlc false (cFld (cVar 0) 0) (some (cBin .add false (cVar 4) (cCon (.int 1)))) none)] [] [])]
def s_qcheck_spot : List CS := [sIff (cNot (cCall P G .qis_spot_of [cVar 0, cVar 1] [] [])) [sRai] []]
def s_qis_spot_of : List CS := [sIff (cOr (cNot (cIsi (cVar 1) .tup)) (cCmp .ne (cPrim .len false [cVar 1]) (cCon (.int 2)))) [sRet (cCon (.bl false))] [], sAsg (gTupC [gName 2, gName 3]) (cVar 1), sRet (cAnd (cCall P G .qis_within [cVar 2, cCon (.int 0), cBin .sub false (cVar 0) (cCon (.int 1))] [] []) (cCall P G .qis_within [cVar 3, cCon (.int 0), cVar 2] [] []))]
def s_qis_within : List CS := [sRet (cAnd (cCall P G .qis_whole [cVar 0] [] []) (cCmp2 .le .le (cVar 1) (cVar 0) (cVar 2)))]
def s_l_jar : List CS := [sAsg (gName 1) (cBin .mul false (cPrim .abs false [cVar 0]) (cPrim .int false [cOr (cCmp .lt (cVar 0) (cCon (.int 0))) (cCmp .ge (cVar 0) (cBin .pow false (cCon (.int 10)) (cCon (.int 18))))])), sRet (cLst true [cVar 1, cBin .add false (cBin .mul false (cBin .mod false (cVar 0) (cCon (.int 1000000093))) (cCon (.int 6011))) (cCon (.int 90019)), cCon (.int 0)])]
def s_l_cell : List CS := [sIff (cCmp .lt (cVar 1) (cPrim .len false [cVar 0])) [sRet (cIdx (cVar 0) (cVar 1))] [], sAsg (gName 2) (cBin .mod false (cBin .mul false (cCon (.int 60029)) (cBin .add false (cBin .add false (cBin .mul false (cVar 1) (cVar 1)) (cBin .mul false (cCon (.int 5)) (cVar 1))) (cCon (.int 17)))) (cCon (.int 1000000093))), sFor (gName 3) (cSeq (cSlc false (cVar 0) none (some (cCon (.int 4))))) [sAsg (gName 2) (cBin .mod false (cBin .add false (cBin .mul false (cVar 2) (cCon (.int 50023))) (cVar 3)) (cCon (.int 1000000093)))], sRet (cVar 2)]
def s_qGround_eq : List CS := [sRet (cAnd (cIsi (cVar 1) (.cls 0)) (cCmp .eq (cFld (cVar 0) 0) (cFld (cVar 1) 0)))]
end
def bs (G : Q → List T → M T) (mk : Nat → Nat → List Nat → List T → M T) : Q → List CS
  | .qlaw => s_qlaw G 
  | .l_right => s_l_right G mk 
  | .l_middles_right => s_l_middles_right G 
  | .l_dip => s_l_dip 
  | .qmiddle => s_qmiddle G 
  | .qcheck_number => s_qcheck_number G 
  | .qis_whole => s_qis_whole 
  | .qmiddle_of => s_qmiddle_of 
  | .l_is_whole => s_l_is_whole 
  | .l_rows => s_l_rows G 
  | .l_size => s_l_size G 
  | .qGround_init => s_qGround_init G 
  | .qcheck_rows => s_qcheck_rows G 
  | .qis_row => s_qis_row G 
  | .l_floors => s_l_floors G 
  | .l_over => s_l_over 
  | .qfloors => s_qfloors G 
  | .qcheck_ground => s_qcheck_ground 
  | .qfloors_of => s_qfloors_of G 
  | .qnext_rows => s_qnext_rows G 
  | .qtop => s_qtop G 
  | .qtop_of => s_qtop_of G 
  | .qGround_put => s_qGround_put G mk 
  | .qcheck_spot => s_qcheck_spot G 
  | .qis_spot_of => s_qis_spot_of G 
  | .qis_within => s_qis_within G 
  | .l_jar => s_l_jar 
  | .l_cell => s_l_cell 
  | .qGround_eq => s_qGround_eq 
theorem s_ok_qlaw (G : Q → List T → M T) (mk : Nat → Nat → List Nat → List T → M T) : exSs P G mk body_qlaw = sSs (bs G mk .qlaw) := by
  unfold body_qlaw bs s_qlaw
  simp only [d_ss, d_var, d_con, d_glob, d_bin, d_neg, d_not, d_and, d_or, d_ite, d_cmp, d_cmp2, d_cmp3, d_eqo, d_tup, d_lst, d_idx, d_slc, d_fld, d_call, d_make, d_meth, d_prim, d_isi, d_bm, d_lc, d_lc2, d_rng, d_enum, d_zip, d_seq, d_name, d_ttup, d_sub, d_tfld, d_expr, d_asg, d_aug, d_ret, d_iff, d_whl, d_for, d_rai, d_pass, List.map_cons, List.map_nil, Option.map_some, Option.map_none]
theorem s_ok_l_right (G : Q → List T → M T) (mk : Nat → Nat → List Nat → List T → M T) : exSs P G mk body_l_right = sSs (bs G mk .l_right) := by
  unfold body_l_right bs s_l_right
  simp only [d_ss, d_var, d_con, d_glob, d_bin, d_neg, d_not, d_and, d_or, d_ite, d_cmp, d_cmp2, d_cmp3, d_eqo, d_tup, d_lst, d_idx, d_slc, d_fld, d_call, d_make, d_meth, d_prim, d_isi, d_bm, d_lc, d_lc2, d_rng, d_enum, d_zip, d_seq, d_name, d_ttup, d_sub, d_tfld, d_expr, d_asg, d_aug, d_ret, d_iff, d_whl, d_for, d_rai, d_pass, List.map_cons, List.map_nil, Option.map_some, Option.map_none]
theorem s_ok_l_middles_right (G : Q → List T → M T) (mk : Nat → Nat → List Nat → List T → M T) : exSs P G mk body_l_middles_right = sSs (bs G mk .l_middles_right) := by
  unfold body_l_middles_right bs s_l_middles_right
  simp only [d_ss, d_var, d_con, d_glob, d_bin, d_neg, d_not, d_and, d_or, d_ite, d_cmp, d_cmp2, d_cmp3, d_eqo, d_tup, d_lst, d_idx, d_slc, d_fld, d_call, d_make, d_meth, d_prim, d_isi, d_bm, d_lc, d_lc2, d_rng, d_enum, d_zip, d_seq, d_name, d_ttup, d_sub, d_tfld, d_expr, d_asg, d_aug, d_ret, d_iff, d_whl, d_for, d_rai, d_pass, List.map_cons, List.map_nil, Option.map_some, Option.map_none]
theorem s_ok_l_dip (G : Q → List T → M T) (mk : Nat → Nat → List Nat → List T → M T) : exSs P G mk body_l_dip = sSs (bs G mk .l_dip) := by
  unfold body_l_dip bs s_l_dip
  simp only [d_ss, d_var, d_con, d_glob, d_bin, d_neg, d_not, d_and, d_or, d_ite, d_cmp, d_cmp2, d_cmp3, d_eqo, d_tup, d_lst, d_idx, d_slc, d_fld, d_call, d_make, d_meth, d_prim, d_isi, d_bm, d_lc, d_lc2, d_rng, d_enum, d_zip, d_seq, d_name, d_ttup, d_sub, d_tfld, d_expr, d_asg, d_aug, d_ret, d_iff, d_whl, d_for, d_rai, d_pass, List.map_cons, List.map_nil, Option.map_some, Option.map_none]
theorem s_ok_qmiddle (G : Q → List T → M T) (mk : Nat → Nat → List Nat → List T → M T) : exSs P G mk body_qmiddle = sSs (bs G mk .qmiddle) := by
  unfold body_qmiddle bs s_qmiddle
  simp only [d_ss, d_var, d_con, d_glob, d_bin, d_neg, d_not, d_and, d_or, d_ite, d_cmp, d_cmp2, d_cmp3, d_eqo, d_tup, d_lst, d_idx, d_slc, d_fld, d_call, d_make, d_meth, d_prim, d_isi, d_bm, d_lc, d_lc2, d_rng, d_enum, d_zip, d_seq, d_name, d_ttup, d_sub, d_tfld, d_expr, d_asg, d_aug, d_ret, d_iff, d_whl, d_for, d_rai, d_pass, List.map_cons, List.map_nil, Option.map_some, Option.map_none]
theorem s_ok_qcheck_number (G : Q → List T → M T) (mk : Nat → Nat → List Nat → List T → M T) : exSs P G mk body_qcheck_number = sSs (bs G mk .qcheck_number) := by
  unfold body_qcheck_number bs s_qcheck_number
  simp only [d_ss, d_var, d_con, d_glob, d_bin, d_neg, d_not, d_and, d_or, d_ite, d_cmp, d_cmp2, d_cmp3, d_eqo, d_tup, d_lst, d_idx, d_slc, d_fld, d_call, d_make, d_meth, d_prim, d_isi, d_bm, d_lc, d_lc2, d_rng, d_enum, d_zip, d_seq, d_name, d_ttup, d_sub, d_tfld, d_expr, d_asg, d_aug, d_ret, d_iff, d_whl, d_for, d_rai, d_pass, List.map_cons, List.map_nil, Option.map_some, Option.map_none]
theorem s_ok_qis_whole (G : Q → List T → M T) (mk : Nat → Nat → List Nat → List T → M T) : exSs P G mk body_qis_whole = sSs (bs G mk .qis_whole) := by
  unfold body_qis_whole bs s_qis_whole
  simp only [d_ss, d_var, d_con, d_glob, d_bin, d_neg, d_not, d_and, d_or, d_ite, d_cmp, d_cmp2, d_cmp3, d_eqo, d_tup, d_lst, d_idx, d_slc, d_fld, d_call, d_make, d_meth, d_prim, d_isi, d_bm, d_lc, d_lc2, d_rng, d_enum, d_zip, d_seq, d_name, d_ttup, d_sub, d_tfld, d_expr, d_asg, d_aug, d_ret, d_iff, d_whl, d_for, d_rai, d_pass, List.map_cons, List.map_nil, Option.map_some, Option.map_none]
theorem s_ok_qmiddle_of (G : Q → List T → M T) (mk : Nat → Nat → List Nat → List T → M T) : exSs P G mk body_qmiddle_of = sSs (bs G mk .qmiddle_of) := by
  unfold body_qmiddle_of bs s_qmiddle_of
  simp only [d_ss, d_var, d_con, d_glob, d_bin, d_neg, d_not, d_and, d_or, d_ite, d_cmp, d_cmp2, d_cmp3, d_eqo, d_tup, d_lst, d_idx, d_slc, d_fld, d_call, d_make, d_meth, d_prim, d_isi, d_bm, d_lc, d_lc2, d_rng, d_enum, d_zip, d_seq, d_name, d_ttup, d_sub, d_tfld, d_expr, d_asg, d_aug, d_ret, d_iff, d_whl, d_for, d_rai, d_pass, List.map_cons, List.map_nil, Option.map_some, Option.map_none]
theorem s_ok_l_is_whole (G : Q → List T → M T) (mk : Nat → Nat → List Nat → List T → M T) : exSs P G mk body_l_is_whole = sSs (bs G mk .l_is_whole) := by
  unfold body_l_is_whole bs s_l_is_whole
  simp only [d_ss, d_var, d_con, d_glob, d_bin, d_neg, d_not, d_and, d_or, d_ite, d_cmp, d_cmp2, d_cmp3, d_eqo, d_tup, d_lst, d_idx, d_slc, d_fld, d_call, d_make, d_meth, d_prim, d_isi, d_bm, d_lc, d_lc2, d_rng, d_enum, d_zip, d_seq, d_name, d_ttup, d_sub, d_tfld, d_expr, d_asg, d_aug, d_ret, d_iff, d_whl, d_for, d_rai, d_pass, List.map_cons, List.map_nil, Option.map_some, Option.map_none]
theorem s_ok_l_rows (G : Q → List T → M T) (mk : Nat → Nat → List Nat → List T → M T) : exSs P G mk body_l_rows = sSs (bs G mk .l_rows) := by
  unfold body_l_rows bs s_l_rows
  simp only [d_ss, d_var, d_con, d_glob, d_bin, d_neg, d_not, d_and, d_or, d_ite, d_cmp, d_cmp2, d_cmp3, d_eqo, d_tup, d_lst, d_idx, d_slc, d_fld, d_call, d_make, d_meth, d_prim, d_isi, d_bm, d_lc, d_lc2, d_rng, d_enum, d_zip, d_seq, d_name, d_ttup, d_sub, d_tfld, d_expr, d_asg, d_aug, d_ret, d_iff, d_whl, d_for, d_rai, d_pass, List.map_cons, List.map_nil, Option.map_some, Option.map_none]
theorem s_ok_l_size (G : Q → List T → M T) (mk : Nat → Nat → List Nat → List T → M T) : exSs P G mk body_l_size = sSs (bs G mk .l_size) := by
  unfold body_l_size bs s_l_size
  simp only [d_ss, d_var, d_con, d_glob, d_bin, d_neg, d_not, d_and, d_or, d_ite, d_cmp, d_cmp2, d_cmp3, d_eqo, d_tup, d_lst, d_idx, d_slc, d_fld, d_call, d_make, d_meth, d_prim, d_isi, d_bm, d_lc, d_lc2, d_rng, d_enum, d_zip, d_seq, d_name, d_ttup, d_sub, d_tfld, d_expr, d_asg, d_aug, d_ret, d_iff, d_whl, d_for, d_rai, d_pass, List.map_cons, List.map_nil, Option.map_some, Option.map_none]
theorem s_ok_qGround_init (G : Q → List T → M T) (mk : Nat → Nat → List Nat → List T → M T) : exSs P G mk body_qGround_init = sSs (bs G mk .qGround_init) := by
  unfold body_qGround_init bs s_qGround_init
  simp only [d_ss, d_var, d_con, d_glob, d_bin, d_neg, d_not, d_and, d_or, d_ite, d_cmp, d_cmp2, d_cmp3, d_eqo, d_tup, d_lst, d_idx, d_slc, d_fld, d_call, d_make, d_meth, d_prim, d_isi, d_bm, d_lc, d_lc2, d_rng, d_enum, d_zip, d_seq, d_name, d_ttup, d_sub, d_tfld, d_expr, d_asg, d_aug, d_ret, d_iff, d_whl, d_for, d_rai, d_pass, List.map_cons, List.map_nil, Option.map_some, Option.map_none]
theorem s_ok_qcheck_rows (G : Q → List T → M T) (mk : Nat → Nat → List Nat → List T → M T) : exSs P G mk body_qcheck_rows = sSs (bs G mk .qcheck_rows) := by
  unfold body_qcheck_rows bs s_qcheck_rows
  simp only [d_ss, d_var, d_con, d_glob, d_bin, d_neg, d_not, d_and, d_or, d_ite, d_cmp, d_cmp2, d_cmp3, d_eqo, d_tup, d_lst, d_idx, d_slc, d_fld, d_call, d_make, d_meth, d_prim, d_isi, d_bm, d_lc, d_lc2, d_rng, d_enum, d_zip, d_seq, d_name, d_ttup, d_sub, d_tfld, d_expr, d_asg, d_aug, d_ret, d_iff, d_whl, d_for, d_rai, d_pass, List.map_cons, List.map_nil, Option.map_some, Option.map_none]
theorem s_ok_qis_row (G : Q → List T → M T) (mk : Nat → Nat → List Nat → List T → M T) : exSs P G mk body_qis_row = sSs (bs G mk .qis_row) := by
  unfold body_qis_row bs s_qis_row
  simp only [d_ss, d_var, d_con, d_glob, d_bin, d_neg, d_not, d_and, d_or, d_ite, d_cmp, d_cmp2, d_cmp3, d_eqo, d_tup, d_lst, d_idx, d_slc, d_fld, d_call, d_make, d_meth, d_prim, d_isi, d_bm, d_lc, d_lc2, d_rng, d_enum, d_zip, d_seq, d_name, d_ttup, d_sub, d_tfld, d_expr, d_asg, d_aug, d_ret, d_iff, d_whl, d_for, d_rai, d_pass, List.map_cons, List.map_nil, Option.map_some, Option.map_none]
theorem s_ok_l_floors (G : Q → List T → M T) (mk : Nat → Nat → List Nat → List T → M T) : exSs P G mk body_l_floors = sSs (bs G mk .l_floors) := by
  unfold body_l_floors bs s_l_floors
  simp only [d_ss, d_var, d_con, d_glob, d_bin, d_neg, d_not, d_and, d_or, d_ite, d_cmp, d_cmp2, d_cmp3, d_eqo, d_tup, d_lst, d_idx, d_slc, d_fld, d_call, d_make, d_meth, d_prim, d_isi, d_bm, d_lc, d_lc2, d_rng, d_enum, d_zip, d_seq, d_name, d_ttup, d_sub, d_tfld, d_expr, d_asg, d_aug, d_ret, d_iff, d_whl, d_for, d_rai, d_pass, List.map_cons, List.map_nil, Option.map_some, Option.map_none]
theorem s_ok_l_over (G : Q → List T → M T) (mk : Nat → Nat → List Nat → List T → M T) : exSs P G mk body_l_over = sSs (bs G mk .l_over) := by
  unfold body_l_over bs s_l_over
  simp only [d_ss, d_var, d_con, d_glob, d_bin, d_neg, d_not, d_and, d_or, d_ite, d_cmp, d_cmp2, d_cmp3, d_eqo, d_tup, d_lst, d_idx, d_slc, d_fld, d_call, d_make, d_meth, d_prim, d_isi, d_bm, d_lc, d_lc2, d_rng, d_enum, d_zip, d_seq, d_name, d_ttup, d_sub, d_tfld, d_expr, d_asg, d_aug, d_ret, d_iff, d_whl, d_for, d_rai, d_pass, List.map_cons, List.map_nil, Option.map_some, Option.map_none]
theorem s_ok_qfloors (G : Q → List T → M T) (mk : Nat → Nat → List Nat → List T → M T) : exSs P G mk body_qfloors = sSs (bs G mk .qfloors) := by
  unfold body_qfloors bs s_qfloors
  simp only [d_ss, d_var, d_con, d_glob, d_bin, d_neg, d_not, d_and, d_or, d_ite, d_cmp, d_cmp2, d_cmp3, d_eqo, d_tup, d_lst, d_idx, d_slc, d_fld, d_call, d_make, d_meth, d_prim, d_isi, d_bm, d_lc, d_lc2, d_rng, d_enum, d_zip, d_seq, d_name, d_ttup, d_sub, d_tfld, d_expr, d_asg, d_aug, d_ret, d_iff, d_whl, d_for, d_rai, d_pass, List.map_cons, List.map_nil, Option.map_some, Option.map_none]
theorem s_ok_qcheck_ground (G : Q → List T → M T) (mk : Nat → Nat → List Nat → List T → M T) : exSs P G mk body_qcheck_ground = sSs (bs G mk .qcheck_ground) := by
  unfold body_qcheck_ground bs s_qcheck_ground
  simp only [d_ss, d_var, d_con, d_glob, d_bin, d_neg, d_not, d_and, d_or, d_ite, d_cmp, d_cmp2, d_cmp3, d_eqo, d_tup, d_lst, d_idx, d_slc, d_fld, d_call, d_make, d_meth, d_prim, d_isi, d_bm, d_lc, d_lc2, d_rng, d_enum, d_zip, d_seq, d_name, d_ttup, d_sub, d_tfld, d_expr, d_asg, d_aug, d_ret, d_iff, d_whl, d_for, d_rai, d_pass, List.map_cons, List.map_nil, Option.map_some, Option.map_none]
theorem s_ok_qfloors_of (G : Q → List T → M T) (mk : Nat → Nat → List Nat → List T → M T) : exSs P G mk body_qfloors_of = sSs (bs G mk .qfloors_of) := by
  unfold body_qfloors_of bs s_qfloors_of
  simp only [d_ss, d_var, d_con, d_glob, d_bin, d_neg, d_not, d_and, d_or, d_ite, d_cmp, d_cmp2, d_cmp3, d_eqo, d_tup, d_lst, d_idx, d_slc, d_fld, d_call, d_make, d_meth, d_prim, d_isi, d_bm, d_lc, d_lc2, d_rng, d_enum, d_zip, d_seq, d_name, d_ttup, d_sub, d_tfld, d_expr, d_asg, d_aug, d_ret, d_iff, d_whl, d_for, d_rai, d_pass, List.map_cons, List.map_nil, Option.map_some, Option.map_none]
theorem s_ok_qnext_rows (G : Q → List T → M T) (mk : Nat → Nat → List Nat → List T → M T) : exSs P G mk body_qnext_rows = sSs (bs G mk .qnext_rows) := by
  unfold body_qnext_rows bs s_qnext_rows
  simp only [d_ss, d_var, d_con, d_glob, d_bin, d_neg, d_not, d_and, d_or, d_ite, d_cmp, d_cmp2, d_cmp3, d_eqo, d_tup, d_lst, d_idx, d_slc, d_fld, d_call, d_make, d_meth, d_prim, d_isi, d_bm, d_lc, d_lc2, d_rng, d_enum, d_zip, d_seq, d_name, d_ttup, d_sub, d_tfld, d_expr, d_asg, d_aug, d_ret, d_iff, d_whl, d_for, d_rai, d_pass, List.map_cons, List.map_nil, Option.map_some, Option.map_none]
theorem s_ok_qtop (G : Q → List T → M T) (mk : Nat → Nat → List Nat → List T → M T) : exSs P G mk body_qtop = sSs (bs G mk .qtop) := by
  unfold body_qtop bs s_qtop
  simp only [d_ss, d_var, d_con, d_glob, d_bin, d_neg, d_not, d_and, d_or, d_ite, d_cmp, d_cmp2, d_cmp3, d_eqo, d_tup, d_lst, d_idx, d_slc, d_fld, d_call, d_make, d_meth, d_prim, d_isi, d_bm, d_lc, d_lc2, d_rng, d_enum, d_zip, d_seq, d_name, d_ttup, d_sub, d_tfld, d_expr, d_asg, d_aug, d_ret, d_iff, d_whl, d_for, d_rai, d_pass, List.map_cons, List.map_nil, Option.map_some, Option.map_none]
theorem s_ok_qtop_of (G : Q → List T → M T) (mk : Nat → Nat → List Nat → List T → M T) : exSs P G mk body_qtop_of = sSs (bs G mk .qtop_of) := by
  unfold body_qtop_of bs s_qtop_of
  simp only [d_ss, d_var, d_con, d_glob, d_bin, d_neg, d_not, d_and, d_or, d_ite, d_cmp, d_cmp2, d_cmp3, d_eqo, d_tup, d_lst, d_idx, d_slc, d_fld, d_call, d_make, d_meth, d_prim, d_isi, d_bm, d_lc, d_lc2, d_rng, d_enum, d_zip, d_seq, d_name, d_ttup, d_sub, d_tfld, d_expr, d_asg, d_aug, d_ret, d_iff, d_whl, d_for, d_rai, d_pass, List.map_cons, List.map_nil, Option.map_some, Option.map_none]
theorem s_ok_qGround_put (G : Q → List T → M T) (mk : Nat → Nat → List Nat → List T → M T) : exSs P G mk body_qGround_put = sSs (bs G mk .qGround_put) := by
  unfold body_qGround_put bs s_qGround_put
  simp only [d_ss, d_var, d_con, d_glob, d_bin, d_neg, d_not, d_and, d_or, d_ite, d_cmp, d_cmp2, d_cmp3, d_eqo, d_tup, d_lst, d_idx, d_slc, d_fld, d_call, d_make, d_meth, d_prim, d_isi, d_bm, d_lc, d_lc2, d_rng, d_enum, d_zip, d_seq, d_name, d_ttup, d_sub, d_tfld, d_expr, d_asg, d_aug, d_ret, d_iff, d_whl, d_for, d_rai, d_pass, List.map_cons, List.map_nil, Option.map_some, Option.map_none]
theorem s_ok_qcheck_spot (G : Q → List T → M T) (mk : Nat → Nat → List Nat → List T → M T) : exSs P G mk body_qcheck_spot = sSs (bs G mk .qcheck_spot) := by
  unfold body_qcheck_spot bs s_qcheck_spot
  simp only [d_ss, d_var, d_con, d_glob, d_bin, d_neg, d_not, d_and, d_or, d_ite, d_cmp, d_cmp2, d_cmp3, d_eqo, d_tup, d_lst, d_idx, d_slc, d_fld, d_call, d_make, d_meth, d_prim, d_isi, d_bm, d_lc, d_lc2, d_rng, d_enum, d_zip, d_seq, d_name, d_ttup, d_sub, d_tfld, d_expr, d_asg, d_aug, d_ret, d_iff, d_whl, d_for, d_rai, d_pass, List.map_cons, List.map_nil, Option.map_some, Option.map_none]
theorem s_ok_qis_spot_of (G : Q → List T → M T) (mk : Nat → Nat → List Nat → List T → M T) : exSs P G mk body_qis_spot_of = sSs (bs G mk .qis_spot_of) := by
  unfold body_qis_spot_of bs s_qis_spot_of
  simp only [d_ss, d_var, d_con, d_glob, d_bin, d_neg, d_not, d_and, d_or, d_ite, d_cmp, d_cmp2, d_cmp3, d_eqo, d_tup, d_lst, d_idx, d_slc, d_fld, d_call, d_make, d_meth, d_prim, d_isi, d_bm, d_lc, d_lc2, d_rng, d_enum, d_zip, d_seq, d_name, d_ttup, d_sub, d_tfld, d_expr, d_asg, d_aug, d_ret, d_iff, d_whl, d_for, d_rai, d_pass, List.map_cons, List.map_nil, Option.map_some, Option.map_none]
theorem s_ok_qis_within (G : Q → List T → M T) (mk : Nat → Nat → List Nat → List T → M T) : exSs P G mk body_qis_within = sSs (bs G mk .qis_within) := by
  unfold body_qis_within bs s_qis_within
  simp only [d_ss, d_var, d_con, d_glob, d_bin, d_neg, d_not, d_and, d_or, d_ite, d_cmp, d_cmp2, d_cmp3, d_eqo, d_tup, d_lst, d_idx, d_slc, d_fld, d_call, d_make, d_meth, d_prim, d_isi, d_bm, d_lc, d_lc2, d_rng, d_enum, d_zip, d_seq, d_name, d_ttup, d_sub, d_tfld, d_expr, d_asg, d_aug, d_ret, d_iff, d_whl, d_for, d_rai, d_pass, List.map_cons, List.map_nil, Option.map_some, Option.map_none]
theorem s_ok_l_jar (G : Q → List T → M T) (mk : Nat → Nat → List Nat → List T → M T) : exSs P G mk body_l_jar = sSs (bs G mk .l_jar) := by
  unfold body_l_jar bs s_l_jar
  simp only [d_ss, d_var, d_con, d_glob, d_bin, d_neg, d_not, d_and, d_or, d_ite, d_cmp, d_cmp2, d_cmp3, d_eqo, d_tup, d_lst, d_idx, d_slc, d_fld, d_call, d_make, d_meth, d_prim, d_isi, d_bm, d_lc, d_lc2, d_rng, d_enum, d_zip, d_seq, d_name, d_ttup, d_sub, d_tfld, d_expr, d_asg, d_aug, d_ret, d_iff, d_whl, d_for, d_rai, d_pass, List.map_cons, List.map_nil, Option.map_some, Option.map_none]
theorem s_ok_l_cell (G : Q → List T → M T) (mk : Nat → Nat → List Nat → List T → M T) : exSs P G mk body_l_cell = sSs (bs G mk .l_cell) := by
  unfold body_l_cell bs s_l_cell
  simp only [d_ss, d_var, d_con, d_glob, d_bin, d_neg, d_not, d_and, d_or, d_ite, d_cmp, d_cmp2, d_cmp3, d_eqo, d_tup, d_lst, d_idx, d_slc, d_fld, d_call, d_make, d_meth, d_prim, d_isi, d_bm, d_lc, d_lc2, d_rng, d_enum, d_zip, d_seq, d_name, d_ttup, d_sub, d_tfld, d_expr, d_asg, d_aug, d_ret, d_iff, d_whl, d_for, d_rai, d_pass, List.map_cons, List.map_nil, Option.map_some, Option.map_none]
theorem s_ok_qGround_eq (G : Q → List T → M T) (mk : Nat → Nat → List Nat → List T → M T) : exSs P G mk body_qGround_eq = sSs (bs G mk .qGround_eq) := by
  unfold body_qGround_eq bs s_qGround_eq
  simp only [d_ss, d_var, d_con, d_glob, d_bin, d_neg, d_not, d_and, d_or, d_ite, d_cmp, d_cmp2, d_cmp3, d_eqo, d_tup, d_lst, d_idx, d_slc, d_fld, d_call, d_make, d_meth, d_prim, d_isi, d_bm, d_lc, d_lc2, d_rng, d_enum, d_zip, d_seq, d_name, d_ttup, d_sub, d_tfld, d_expr, d_asg, d_aug, d_ret, d_iff, d_whl, d_for, d_rai, d_pass, List.map_cons, List.map_nil, Option.map_some, Option.map_none]
theorem bs_ok (G : Q → List T → M T) (mk : Nat → Nat → List Nat → List T → M T) : ∀ f, exSs P G mk (P.fn f).body = sSs (bs G mk f)
  | .qlaw => s_ok_qlaw G mk
  | .l_right => s_ok_l_right G mk
  | .l_middles_right => s_ok_l_middles_right G mk
  | .l_dip => s_ok_l_dip G mk
  | .qmiddle => s_ok_qmiddle G mk
  | .qcheck_number => s_ok_qcheck_number G mk
  | .qis_whole => s_ok_qis_whole G mk
  | .qmiddle_of => s_ok_qmiddle_of G mk
  | .l_is_whole => s_ok_l_is_whole G mk
  | .l_rows => s_ok_l_rows G mk
  | .l_size => s_ok_l_size G mk
  | .qGround_init => s_ok_qGround_init G mk
  | .qcheck_rows => s_ok_qcheck_rows G mk
  | .qis_row => s_ok_qis_row G mk
  | .l_floors => s_ok_l_floors G mk
  | .l_over => s_ok_l_over G mk
  | .qfloors => s_ok_qfloors G mk
  | .qcheck_ground => s_ok_qcheck_ground G mk
  | .qfloors_of => s_ok_qfloors_of G mk
  | .qnext_rows => s_ok_qnext_rows G mk
  | .qtop => s_ok_qtop G mk
  | .qtop_of => s_ok_qtop_of G mk
  | .qGround_put => s_ok_qGround_put G mk
  | .qcheck_spot => s_ok_qcheck_spot G mk
  | .qis_spot_of => s_ok_qis_spot_of G mk
  | .qis_within => s_ok_qis_within G mk
  | .l_jar => s_ok_l_jar G mk
  | .l_cell => s_ok_l_cell G mk
  | .qGround_eq => s_ok_qGround_eq G mk
def sh : Sh Q := ⟨P, bs, bs_ok⟩
theorem is_qlaw : Is sh .qlaw 1 1 .pure (fun G mk => s_qlaw G ) := ⟨rfl, rfl, rfl, fun _ _ => rfl, rfl⟩
theorem bd_qlaw (vs : List T) : bindA P .qlaw 1 [] vs = ret vs := is_qlaw.bind vs
theorem is_l_right : Is sh .l_right 1 6 .shared (fun G mk => s_l_right G mk ) := ⟨rfl, rfl, rfl, fun _ _ => rfl, rfl⟩
theorem bd_l_right (vs : List T) : bindA P .l_right 1 [] vs = ret vs := is_l_right.bind vs
theorem is_l_middles_right : Is sh .l_middles_right 1 8 .shared (fun G mk => s_l_middles_right G ) := ⟨rfl, rfl, rfl, fun _ _ => rfl, rfl⟩
theorem bd_l_middles_right (vs : List T) : bindA P .l_middles_right 1 [] vs = ret vs := is_l_middles_right.bind vs
theorem is_l_dip : Is sh .l_dip 2 2 .shared (fun G mk => s_l_dip ) := ⟨rfl, rfl, rfl, fun _ _ => rfl, rfl⟩
theorem bd_l_dip (vs : List T) : bindA P .l_dip 2 [] vs = ret vs := is_l_dip.bind vs
theorem is_qmiddle : Is sh .qmiddle 3 1 .pure (fun G mk => s_qmiddle G ) := ⟨rfl, rfl, rfl, fun _ _ => rfl, rfl⟩
theorem bd_qmiddle (vs : List T) : bindA P .qmiddle 3 [] vs = ret vs := is_qmiddle.bind vs
theorem bi_qmiddle_0 (x0 x1 x2 : T) : bindA P .qmiddle 0 [0, 1, 2] [x0, x1, x2] = ret [x1, x2, x0] := rfl
theorem bi_qmiddle_1 (x0 x1 x2 : T) : bindA P .qmiddle 1 [0, 2] [x0, x1, x2] = ret [x0, x2, x1] := rfl
theorem is_qcheck_number : Is sh .qcheck_number 1 0 .pure (fun G mk => s_qcheck_number G ) := ⟨rfl, rfl, rfl, fun _ _ => rfl, rfl⟩
theorem bd_qcheck_number (vs : List T) : bindA P .qcheck_number 1 [] vs = ret vs := is_qcheck_number.bind vs
theorem is_qis_whole : Is sh .qis_whole 1 0 .pure (fun G mk => s_qis_whole ) := ⟨rfl, rfl, rfl, fun _ _ => rfl, rfl⟩
theorem bd_qis_whole (vs : List T) : bindA P .qis_whole 1 [] vs = ret vs := is_qis_whole.bind vs
theorem is_qmiddle_of : Is sh .qmiddle_of 3 0 .pure (fun G mk => s_qmiddle_of ) := ⟨rfl, rfl, rfl, fun _ _ => rfl, rfl⟩
theorem bd_qmiddle_of (vs : List T) : bindA P .qmiddle_of 3 [] vs = ret vs := is_qmiddle_of.bind vs
theorem is_l_is_whole : Is sh .l_is_whole 1 0 .pure (fun G mk => s_l_is_whole ) := ⟨rfl, rfl, rfl, fun _ _ => rfl, rfl⟩
theorem bd_l_is_whole (vs : List T) : bindA P .l_is_whole 1 [] vs = ret vs := is_l_is_whole.bind vs
theorem is_l_rows : Is sh .l_rows 2 4 .shared (fun G mk => s_l_rows G ) := ⟨rfl, rfl, rfl, fun _ _ => rfl, rfl⟩
theorem bd_l_rows (vs : List T) : bindA P .l_rows 2 [] vs = ret vs := is_l_rows.bind vs
theorem is_l_size : Is sh .l_size 2 0 .shared (fun G mk => s_l_size G ) := ⟨rfl, rfl, rfl, fun _ _ => rfl, rfl⟩
theorem bd_l_size (vs : List T) : bindA P .l_size 2 [] vs = ret vs := is_l_size.bind vs
theorem is_qGround_init : Is sh .qGround_init 2 0 .keep (fun G mk => s_qGround_init G ) := ⟨rfl, rfl, rfl, fun _ _ => rfl, rfl⟩
theorem bd_qGround_init (vs : List T) : bindA P .qGround_init 2 [] vs = ret vs := is_qGround_init.bind vs
theorem is_qcheck_rows : Is sh .qcheck_rows 1 2 .pure (fun G mk => s_qcheck_rows G ) := ⟨rfl, rfl, rfl, fun _ _ => rfl, rfl⟩
theorem bd_qcheck_rows (vs : List T) : bindA P .qcheck_rows 1 [] vs = ret vs := is_qcheck_rows.bind vs
theorem is_qis_row : Is sh .qis_row 2 1 .pure (fun G mk => s_qis_row G ) := ⟨rfl, rfl, rfl, fun _ _ => rfl, rfl⟩
theorem bd_qis_row (vs : List T) : bindA P .qis_row 2 [] vs = ret vs := is_qis_row.bind vs
theorem is_l_floors : Is sh .l_floors 1 1 .pure (fun G mk => s_l_floors G ) := ⟨rfl, rfl, rfl, fun _ _ => rfl, rfl⟩
theorem bd_l_floors (vs : List T) : bindA P .l_floors 1 [] vs = ret vs := is_l_floors.bind vs
theorem is_l_over : Is sh .l_over 1 5 .pure (fun G mk => s_l_over ) := ⟨rfl, rfl, rfl, fun _ _ => rfl, rfl⟩
theorem bd_l_over (vs : List T) : bindA P .l_over 1 [] vs = ret vs := is_l_over.bind vs
theorem is_qfloors : Is sh .qfloors 1 0 .pure (fun G mk => s_qfloors G ) := ⟨rfl, rfl, rfl, fun _ _ => rfl, rfl⟩
theorem bd_qfloors (vs : List T) : bindA P .qfloors 1 [] vs = ret vs := is_qfloors.bind vs
theorem bi_qfloors_0 (x0 : T) : bindA P .qfloors 0 [3] [x0] = ret [x0] := rfl
theorem is_qcheck_ground : Is sh .qcheck_ground 1 0 .pure (fun G mk => s_qcheck_ground ) := ⟨rfl, rfl, rfl, fun _ _ => rfl, rfl⟩
theorem bd_qcheck_ground (vs : List T) : bindA P .qcheck_ground 1 [] vs = ret vs := is_qcheck_ground.bind vs
theorem is_qfloors_of : Is sh .qfloors_of 1 1 .pure (fun G mk => s_qfloors_of G ) := ⟨rfl, rfl, rfl, fun _ _ => rfl, rfl⟩
theorem bd_qfloors_of (vs : List T) : bindA P .qfloors_of 1 [] vs = ret vs := is_qfloors_of.bind vs
theorem is_qnext_rows : Is sh .qnext_rows 1 5 .pure (fun G mk => s_qnext_rows G ) := ⟨rfl, rfl, rfl, fun _ _ => rfl, rfl⟩
theorem bd_qnext_rows (vs : List T) : bindA P .qnext_rows 1 [] vs = ret vs := is_qnext_rows.bind vs
theorem is_qtop : Is sh .qtop 1 0 .pure (fun G mk => s_qtop G ) := ⟨rfl, rfl, rfl, fun _ _ => rfl, rfl⟩
theorem bd_qtop (vs : List T) : bindA P .qtop 1 [] vs = ret vs := is_qtop.bind vs
theorem bi_qtop_0 (x0 : T) : bindA P .qtop 0 [3] [x0] = ret [x0] := rfl
theorem is_qtop_of : Is sh .qtop_of 1 0 .pure (fun G mk => s_qtop_of G ) := ⟨rfl, rfl, rfl, fun _ _ => rfl, rfl⟩
theorem bd_qtop_of (vs : List T) : bindA P .qtop_of 1 [] vs = ret vs := is_qtop_of.bind vs
theorem is_qGround_put : Is sh .qGround_put 3 3 .pure (fun G mk => s_qGround_put G mk ) := ⟨rfl, rfl, rfl, fun _ _ => rfl, rfl⟩
theorem bd_qGround_put (vs : List T) : bindA P .qGround_put 3 [] vs = ret vs := is_qGround_put.bind vs
theorem is_qcheck_spot : Is sh .qcheck_spot 2 0 .pure (fun G mk => s_qcheck_spot G ) := ⟨rfl, rfl, rfl, fun _ _ => rfl, rfl⟩
theorem bd_qcheck_spot (vs : List T) : bindA P .qcheck_spot 2 [] vs = ret vs := is_qcheck_spot.bind vs
theorem is_qis_spot_of : Is sh .qis_spot_of 2 2 .pure (fun G mk => s_qis_spot_of G ) := ⟨rfl, rfl, rfl, fun _ _ => rfl, rfl⟩
theorem bd_qis_spot_of (vs : List T) : bindA P .qis_spot_of 2 [] vs = ret vs := is_qis_spot_of.bind vs
theorem is_qis_within : Is sh .qis_within 3 0 .pure (fun G mk => s_qis_within G ) := ⟨rfl, rfl, rfl, fun _ _ => rfl, rfl⟩
theorem bd_qis_within (vs : List T) : bindA P .qis_within 3 [] vs = ret vs := is_qis_within.bind vs
theorem is_l_jar : Is sh .l_jar 1 1 .keep (fun G mk => s_l_jar ) := ⟨rfl, rfl, rfl, fun _ _ => rfl, rfl⟩
theorem bd_l_jar (vs : List T) : bindA P .l_jar 1 [] vs = ret vs := is_l_jar.bind vs
theorem is_l_cell : Is sh .l_cell 2 2 .pure (fun G mk => s_l_cell ) := ⟨rfl, rfl, rfl, fun _ _ => rfl, rfl⟩
theorem bd_l_cell (vs : List T) : bindA P .l_cell 2 [] vs = ret vs := is_l_cell.bind vs
theorem is_qGround_eq : Is sh .qGround_eq 2 0 .pure (fun G mk => s_qGround_eq ) := ⟨rfl, rfl, rfl, fun _ _ => rfl, rfl⟩
theorem bd_qGround_eq (vs : List T) : bindA P .qGround_eq 2 [] vs = ret vs := is_qGround_eq.bind vs
theorem gl_0 : P.glob 0 = some (.int 12) := rfl
theorem sh_eq (n : Nat) : callS sh n = callN b.P n := (callS_eq sh n).1
end K13

set_option maxHeartbeats 8000000
namespace K13
open PySem Mt
section
variable {n : Nat}
theorem range_snoc' {α : Type} (v : Nat → α) (n : Nat) (x : α) (e : x = v n) : (List.range n).map v ++ [x] = (List.range (n + 1)).map v := by
  rw [e, range_snoc]
variable {n : Nat}
theorem f_middle_of (hn : 2 ≤ n) (a b c : Int) : callS sh n .qmiddle_of [.int a, .int b, .int c] = ret (.int (mid a b c)) := by
  obtain ⟨k, rfl⟩ : ∃ m, n = m + 2 := ⟨n - 2, by omega⟩
  refine call_pure is_qmiddle_of rfl ?_
  simp (config := {maxSteps := 3000000}) (disch := first | assumption | with_unfolding_all exact id rfl | with_unfolding_all exact Nat.le_of_ble_eq_true rfl | omega) only [r_add, r_sub, r_mulL, r_mulR, r_mod, r_fdiv, r_divmod, r_pint, r_pintb, r_abs, r_min2, r_max2, r_lent, r_lenl, r_lens, r_lenr, r_tupl, r_tupt, r_negi, r_trub, r_trui, r_lt, r_le, r_gt, r_ge, r_isb, r_isnb, r_idxt, r_idxl, r_idxs, r_idxr, r_atT, r_at0, r_at1, r_at2, r_ix30, r_ix31, r_ix32, r_mkF, r_mkT, r_itt, r_itl, r_its, r_itr, r_stt, r_stl, r_sts, r_isii, r_isib, r_isit, r_isil, r_isis, r_k1, r_k2, r_k3, r_k4, r_k5, r_k6, r_k7, r_k8, r_k9, r_k10, r_k11, r_k12, r_k13, r_k14, r_k15, r_wi0, r_wi1, r_bin0, r_line, r_frzb, r_frzi, r_frzn, r_frzs, r_ret, r_no, ↓r_bnd, r_newO, r_getO, r_getO_set, r_setO, r_setO_set, r_ite, r_nox, ↓w_es0, ↓w_es1, ↓w_cO0, ↓w_cO1, ↓w_ifs0, ↓w_ifs1, ↓w_var, ↓w_con, ↓w_glob, ↓w_bin, ↓w_neg, ↓w_not, ↓w_and, ↓w_or, ↓w_ite, ↓w_cmp, ↓w_cmp2, ↓w_cmp3, ↓w_eqo, ↓w_tup, ↓w_lst, ↓w_idx, ↓w_slc, ↓w_fld, ↓w_call, ↓w_make, ↓w_meth, ↓w_prim, ↓w_isi, ↓w_bm, ↓w_lc, ↓w_rng, ↓w_enum, ↓w_zip, ↓w_seq, ↓w_gName, ↓w_gs0, ↓w_gs1, ↓w_gTup, ↓w_gTupL, ↓w_gSub, ↓w_gFld, ↓w_ss0, ↓w_ss1, ↓w_expr, ↓w_asg, ↓w_aug, ↓w_sret, ↓w_sif, ↓w_rai, ↓w_pass, ↓w_for, ↓w_runS, r_lineN, r_lentri, r_lenrow, r_tri, r_tri1, r_tri0, r_row, r_row1, r_row0, r_isitri, r_isirow, r_sort3, r_mid, r_n1, r_n0, ↓w_rngN, r_tupr, r_frztri, r_frzrow, ↓w_app0, r_cuttri, r_ittri, r_itrow, r_sttri, r_strow, r_atlast, r_put0, r_put10, r_fld0, r_fld1, r_isgrd, r_clsgrd, r_cutrow, r_eqi, r_nei, r_eqb, ↓w_lc2, ↓r_rng, ↓w_bme, ↓w_app, ↓w_ext, r_sortp, r_zip1, r_zip0, r_sort3, r_eql3, r_allT, r_alll, r_addl, r_addt, bd_qlaw, bd_l_right, bd_l_middles_right, bd_l_dip, bd_qmiddle, bi_qmiddle_0, bi_qmiddle_1, bd_qcheck_number, bd_qis_whole, bd_qmiddle_of, bd_l_is_whole, bd_l_rows, bd_l_size, bd_qGround_init, bd_qcheck_rows, bd_qis_row, bd_l_floors, bd_l_over, bd_qfloors, bi_qfloors_0, bd_qcheck_ground, bd_qfloors_of, bd_qnext_rows, bd_qtop, bi_qtop_0, bd_qtop_of, bd_qGround_put, bd_qcheck_spot, bd_qis_spot_of, bd_qis_within, bd_l_jar, bd_l_cell, bd_qGround_eq, gl_0, ↓bnd_ret, ↓bnd_no, ofO_some, Option.bind_some, id, List.getElem?_cons_zero, List.getElem?_cons_succ, List.set_cons_zero, List.set_cons_succ, List.length_cons, List.length_nil, if_true, if_false, Bool.false_eq_true, List.map_cons, List.map_nil, List.cons_append, List.nil_append, List.append_nil, List.replicate_succ, List.replicate_zero, ↓reduceIte, Bool.not_true, Bool.not_false, decide_true, decide_false, Nat.reduceAdd, Nat.reduceLT, Nat.reduceLeDiff, List.length_set, true_and, and_true, Int.cast_ofNat_Int, eq_self, s_qmiddle_of, r_mid]
theorem frz1 (w : Nat) (g : Nat → Nat → Int) : (frzWs (r0 0) [tri w g]).isSome = true := by
  show (match frzW (r0 0) (tri w g), frzWs (r0 0) [] with
    | some y, some ys => some (y :: ys)
    | _, _ => none).isSome = true
  rw [frz_tri]; rfl
theorem f_over (hn : 2 ≤ n) {w : Nat} (hw : w ≤ 12) (g : Nat → Nat → Int) : callS sh n .l_over [tri (w + 1) g] = ret (tri w (over g)) := by
  obtain ⟨k, rfl⟩ : ∃ m, n = m + 2 := ⟨n - 2, by omega⟩
  refine call_pure is_l_over (frz1 _ _) ?_
  have l1 := line1000
  have e1 : ((w : Int) + 1 - 1 - 0).toNat = w := by omega
  simp (config := {maxSteps := 3000000}) (disch := first | assumption | with_unfolding_all exact id rfl | with_unfolding_all exact Nat.le_of_ble_eq_true rfl | omega) only [r_add, r_sub, r_mulL, r_mulR, r_mod, r_fdiv, r_divmod, r_pint, r_pintb, r_abs, r_min2, r_max2, r_lent, r_lenl, r_lens, r_lenr, r_tupl, r_tupt, r_negi, r_trub, r_trui, r_lt, r_le, r_gt, r_ge, r_isb, r_isnb, r_idxt, r_idxl, r_idxs, r_idxr, r_atT, r_at0, r_at1, r_at2, r_ix30, r_ix31, r_ix32, r_mkF, r_mkT, r_itt, r_itl, r_its, r_itr, r_stt, r_stl, r_sts, r_isii, r_isib, r_isit, r_isil, r_isis, r_k1, r_k2, r_k3, r_k4, r_k5, r_k6, r_k7, r_k8, r_k9, r_k10, r_k11, r_k12, r_k13, r_k14, r_k15, r_wi0, r_wi1, r_bin0, r_line, r_frzb, r_frzi, r_frzn, r_frzs, r_ret, r_no, ↓r_bnd, r_newO, r_getO, r_getO_set, r_setO, r_setO_set, r_ite, r_nox, ↓w_es0, ↓w_es1, ↓w_cO0, ↓w_cO1, ↓w_ifs0, ↓w_ifs1, ↓w_var, ↓w_con, ↓w_glob, ↓w_bin, ↓w_neg, ↓w_not, ↓w_and, ↓w_or, ↓w_ite, ↓w_cmp, ↓w_cmp2, ↓w_cmp3, ↓w_eqo, ↓w_tup, ↓w_lst, ↓w_idx, ↓w_slc, ↓w_fld, ↓w_call, ↓w_make, ↓w_meth, ↓w_prim, ↓w_isi, ↓w_bm, ↓w_lc, ↓w_rng, ↓w_enum, ↓w_zip, ↓w_seq, ↓w_gName, ↓w_gs0, ↓w_gs1, ↓w_gTup, ↓w_gTupL, ↓w_gSub, ↓w_gFld, ↓w_ss0, ↓w_ss1, ↓w_expr, ↓w_asg, ↓w_aug, ↓w_sret, ↓w_sif, ↓w_rai, ↓w_pass, ↓w_for, ↓w_runS, r_lineN, r_lentri, r_lenrow, r_tri, r_tri1, r_tri0, r_row, r_row1, r_row0, r_isitri, r_isirow, r_sort3, r_mid, r_n1, r_n0, ↓w_rngN, r_tupr, r_frztri, r_frzrow, ↓w_app0, r_cuttri, r_ittri, r_itrow, r_sttri, r_strow, r_atlast, r_put0, r_put10, r_fld0, r_fld1, r_isgrd, r_clsgrd, r_cutrow, r_eqi, r_nei, r_eqb, ↓w_lc2, ↓r_rng, ↓w_bme, ↓w_app, ↓w_ext, r_sortp, r_zip1, r_zip0, r_sort3, r_eql3, r_allT, r_alll, r_addl, r_addt, bd_qlaw, bd_l_right, bd_l_middles_right, bd_l_dip, bd_qmiddle, bi_qmiddle_0, bi_qmiddle_1, bd_qcheck_number, bd_qis_whole, bd_qmiddle_of, bd_l_is_whole, bd_l_rows, bd_l_size, bd_qGround_init, bd_qcheck_rows, bd_qis_row, bd_l_floors, bd_l_over, bd_qfloors, bi_qfloors_0, bd_qcheck_ground, bd_qfloors_of, bd_qnext_rows, bd_qtop, bi_qtop_0, bd_qtop_of, bd_qGround_put, bd_qcheck_spot, bd_qis_spot_of, bd_qis_within, bd_l_jar, bd_l_cell, bd_qGround_eq, gl_0, ↓bnd_ret, ↓bnd_no, ofO_some, Option.bind_some, id, List.getElem?_cons_zero, List.getElem?_cons_succ, List.set_cons_zero, List.set_cons_succ, List.length_cons, List.length_nil, if_true, if_false, Bool.false_eq_true, List.map_cons, List.map_nil, List.cons_append, List.nil_append, List.append_nil, List.replicate_succ, List.replicate_zero, ↓reduceIte, Bool.not_true, Bool.not_false, decide_true, decide_false, Nat.reduceAdd, Nat.reduceLT, Nat.reduceLeDiff, List.length_set, true_and, and_true, Int.cast_ofNat_Int, eq_self, s_l_over, u_c1, e1]
  refine W_forR (fun k σ h => ∃ x2 x3 x4 x5 : Option T, σ = [some (tri (w + 1) g), some (.ref 0), x2, x3, x4, x5] ∧ h = [.lst ((List.range k).map fun r => rowT (over g r) (r + 1))]) ?_ ⟨_, _, _, _, rfl, rfl⟩ ?_
  · rintro r hr σ h ⟨x2, x3, x4, x5, rfl, rfl⟩
    simp (config := {maxSteps := 3000000}) (disch := first | assumption | with_unfolding_all exact id rfl | with_unfolding_all exact Nat.le_of_ble_eq_true rfl | omega) only [r_add, r_sub, r_mulL, r_mulR, r_mod, r_fdiv, r_divmod, r_pint, r_pintb, r_abs, r_min2, r_max2, r_lent, r_lenl, r_lens, r_lenr, r_tupl, r_tupt, r_negi, r_trub, r_trui, r_lt, r_le, r_gt, r_ge, r_isb, r_isnb, r_idxt, r_idxl, r_idxs, r_idxr, r_atT, r_at0, r_at1, r_at2, r_ix30, r_ix31, r_ix32, r_mkF, r_mkT, r_itt, r_itl, r_its, r_itr, r_stt, r_stl, r_sts, r_isii, r_isib, r_isit, r_isil, r_isis, r_k1, r_k2, r_k3, r_k4, r_k5, r_k6, r_k7, r_k8, r_k9, r_k10, r_k11, r_k12, r_k13, r_k14, r_k15, r_wi0, r_wi1, r_bin0, r_line, r_frzb, r_frzi, r_frzn, r_frzs, r_ret, r_no, ↓r_bnd, r_newO, r_getO, r_getO_set, r_setO, r_setO_set, r_ite, r_nox, ↓w_es0, ↓w_es1, ↓w_cO0, ↓w_cO1, ↓w_ifs0, ↓w_ifs1, ↓w_var, ↓w_con, ↓w_glob, ↓w_bin, ↓w_neg, ↓w_not, ↓w_and, ↓w_or, ↓w_ite, ↓w_cmp, ↓w_cmp2, ↓w_cmp3, ↓w_eqo, ↓w_tup, ↓w_lst, ↓w_idx, ↓w_slc, ↓w_fld, ↓w_call, ↓w_make, ↓w_meth, ↓w_prim, ↓w_isi, ↓w_bm, ↓w_lc, ↓w_rng, ↓w_enum, ↓w_zip, ↓w_seq, ↓w_gName, ↓w_gs0, ↓w_gs1, ↓w_gTup, ↓w_gTupL, ↓w_gSub, ↓w_gFld, ↓w_ss0, ↓w_ss1, ↓w_expr, ↓w_asg, ↓w_aug, ↓w_sret, ↓w_sif, ↓w_rai, ↓w_pass, ↓w_for, ↓w_runS, r_lineN, r_lentri, r_lenrow, r_tri, r_tri1, r_tri0, r_row, r_row1, r_row0, r_isitri, r_isirow, r_sort3, r_mid, r_n1, r_n0, ↓w_rngN, r_tupr, r_frztri, r_frzrow, ↓w_app0, r_cuttri, r_ittri, r_itrow, r_sttri, r_strow, r_atlast, r_put0, r_put10, r_fld0, r_fld1, r_isgrd, r_clsgrd, r_cutrow, r_eqi, r_nei, r_eqb, ↓w_lc2, ↓r_rng, ↓w_bme, ↓w_app, ↓w_ext, r_sortp, r_zip1, r_zip0, r_sort3, r_eql3, r_allT, r_alll, r_addl, r_addt, bd_qlaw, bd_l_right, bd_l_middles_right, bd_l_dip, bd_qmiddle, bi_qmiddle_0, bi_qmiddle_1, bd_qcheck_number, bd_qis_whole, bd_qmiddle_of, bd_l_is_whole, bd_l_rows, bd_l_size, bd_qGround_init, bd_qcheck_rows, bd_qis_row, bd_l_floors, bd_l_over, bd_qfloors, bi_qfloors_0, bd_qcheck_ground, bd_qfloors_of, bd_qnext_rows, bd_qtop, bi_qtop_0, bd_qtop_of, bd_qGround_put, bd_qcheck_spot, bd_qis_spot_of, bd_qis_within, bd_l_jar, bd_l_cell, bd_qGround_eq, gl_0, ↓bnd_ret, ↓bnd_no, ofO_some, Option.bind_some, id, List.getElem?_cons_zero, List.getElem?_cons_succ, List.set_cons_zero, List.set_cons_succ, List.length_cons, List.length_nil, if_true, if_false, Bool.false_eq_true, List.map_cons, List.map_nil, List.cons_append, List.nil_append, List.append_nil, List.replicate_succ, List.replicate_zero, ↓reduceIte, Bool.not_true, Bool.not_false, decide_true, decide_false, Nat.reduceAdd, Nat.reduceLT, Nat.reduceLeDiff, List.length_set, true_and, and_true, Int.cast_ofNat_Int, eq_self]
    refine W_compN (fun a => .int (over g r a)) (fun a ha => ?_) ?_
    · refine M_ret fun h => ?_
      simp (config := {maxSteps := 3000000}) (disch := first | assumption | with_unfolding_all exact id rfl | with_unfolding_all exact Nat.le_of_ble_eq_true rfl | omega) only [r_add, r_sub, r_mulL, r_mulR, r_mod, r_fdiv, r_divmod, r_pint, r_pintb, r_abs, r_min2, r_max2, r_lent, r_lenl, r_lens, r_lenr, r_tupl, r_tupt, r_negi, r_trub, r_trui, r_lt, r_le, r_gt, r_ge, r_isb, r_isnb, r_idxt, r_idxl, r_idxs, r_idxr, r_atT, r_at0, r_at1, r_at2, r_ix30, r_ix31, r_ix32, r_mkF, r_mkT, r_itt, r_itl, r_its, r_itr, r_stt, r_stl, r_sts, r_isii, r_isib, r_isit, r_isil, r_isis, r_k1, r_k2, r_k3, r_k4, r_k5, r_k6, r_k7, r_k8, r_k9, r_k10, r_k11, r_k12, r_k13, r_k14, r_k15, r_wi0, r_wi1, r_bin0, r_line, r_frzb, r_frzi, r_frzn, r_frzs, r_ret, r_no, ↓r_bnd, r_newO, r_getO, r_getO_set, r_setO, r_setO_set, r_ite, r_nox, ↓w_es0, ↓w_es1, ↓w_cO0, ↓w_cO1, ↓w_ifs0, ↓w_ifs1, ↓w_var, ↓w_con, ↓w_glob, ↓w_bin, ↓w_neg, ↓w_not, ↓w_and, ↓w_or, ↓w_ite, ↓w_cmp, ↓w_cmp2, ↓w_cmp3, ↓w_eqo, ↓w_tup, ↓w_lst, ↓w_idx, ↓w_slc, ↓w_fld, ↓w_call, ↓w_make, ↓w_meth, ↓w_prim, ↓w_isi, ↓w_bm, ↓w_lc, ↓w_rng, ↓w_enum, ↓w_zip, ↓w_seq, ↓w_gName, ↓w_gs0, ↓w_gs1, ↓w_gTup, ↓w_gTupL, ↓w_gSub, ↓w_gFld, ↓w_ss0, ↓w_ss1, ↓w_expr, ↓w_asg, ↓w_aug, ↓w_sret, ↓w_sif, ↓w_rai, ↓w_pass, ↓w_for, ↓w_runS, r_lineN, r_lentri, r_lenrow, r_tri, r_tri1, r_tri0, r_row, r_row1, r_row0, r_isitri, r_isirow, r_sort3, r_mid, r_n1, r_n0, ↓w_rngN, r_tupr, r_frztri, r_frzrow, ↓w_app0, r_cuttri, r_ittri, r_itrow, r_sttri, r_strow, r_atlast, r_put0, r_put10, r_fld0, r_fld1, r_isgrd, r_clsgrd, r_cutrow, r_eqi, r_nei, r_eqb, ↓w_lc2, ↓r_rng, ↓w_bme, ↓w_app, ↓w_ext, r_sortp, r_zip1, r_zip0, r_sort3, r_eql3, r_allT, r_alll, r_addl, r_addt, bd_qlaw, bd_l_right, bd_l_middles_right, bd_l_dip, bd_qmiddle, bi_qmiddle_0, bi_qmiddle_1, bd_qcheck_number, bd_qis_whole, bd_qmiddle_of, bd_l_is_whole, bd_l_rows, bd_l_size, bd_qGround_init, bd_qcheck_rows, bd_qis_row, bd_l_floors, bd_l_over, bd_qfloors, bi_qfloors_0, bd_qcheck_ground, bd_qfloors_of, bd_qnext_rows, bd_qtop, bi_qtop_0, bd_qtop_of, bd_qGround_put, bd_qcheck_spot, bd_qis_spot_of, bd_qis_within, bd_l_jar, bd_l_cell, bd_qGround_eq, gl_0, ↓bnd_ret, ↓bnd_no, ofO_some, Option.bind_some, id, List.getElem?_cons_zero, List.getElem?_cons_succ, List.set_cons_zero, List.set_cons_succ, List.length_cons, List.length_nil, if_true, if_false, Bool.false_eq_true, List.map_cons, List.map_nil, List.cons_append, List.nil_append, List.append_nil, List.replicate_succ, List.replicate_zero, ↓reduceIte, Bool.not_true, Bool.not_false, decide_true, decide_false, Nat.reduceAdd, Nat.reduceLT, Nat.reduceLeDiff, List.length_set, true_and, and_true, Int.cast_ofNat_Int, eq_self]
      rfl
    · refine ⟨by rw [len_range]; omega, ?_⟩
      have l2 : (List.map (fun r => rowT (over g r) (r + 1)) (List.range r)).length < sizeLine := by rw [len_range]; omega
      simp (config := {maxSteps := 3000000}) (disch := first | assumption | with_unfolding_all exact id rfl | with_unfolding_all exact Nat.le_of_ble_eq_true rfl | omega) only [r_add, r_sub, r_mulL, r_mulR, r_mod, r_fdiv, r_divmod, r_pint, r_pintb, r_abs, r_min2, r_max2, r_lent, r_lenl, r_lens, r_lenr, r_tupl, r_tupt, r_negi, r_trub, r_trui, r_lt, r_le, r_gt, r_ge, r_isb, r_isnb, r_idxt, r_idxl, r_idxs, r_idxr, r_atT, r_at0, r_at1, r_at2, r_ix30, r_ix31, r_ix32, r_mkF, r_mkT, r_itt, r_itl, r_its, r_itr, r_stt, r_stl, r_sts, r_isii, r_isib, r_isit, r_isil, r_isis, r_k1, r_k2, r_k3, r_k4, r_k5, r_k6, r_k7, r_k8, r_k9, r_k10, r_k11, r_k12, r_k13, r_k14, r_k15, r_wi0, r_wi1, r_bin0, r_line, r_frzb, r_frzi, r_frzn, r_frzs, r_ret, r_no, ↓r_bnd, r_newO, r_getO, r_getO_set, r_setO, r_setO_set, r_ite, r_nox, ↓w_es0, ↓w_es1, ↓w_cO0, ↓w_cO1, ↓w_ifs0, ↓w_ifs1, ↓w_var, ↓w_con, ↓w_glob, ↓w_bin, ↓w_neg, ↓w_not, ↓w_and, ↓w_or, ↓w_ite, ↓w_cmp, ↓w_cmp2, ↓w_cmp3, ↓w_eqo, ↓w_tup, ↓w_lst, ↓w_idx, ↓w_slc, ↓w_fld, ↓w_call, ↓w_make, ↓w_meth, ↓w_prim, ↓w_isi, ↓w_bm, ↓w_lc, ↓w_rng, ↓w_enum, ↓w_zip, ↓w_seq, ↓w_gName, ↓w_gs0, ↓w_gs1, ↓w_gTup, ↓w_gTupL, ↓w_gSub, ↓w_gFld, ↓w_ss0, ↓w_ss1, ↓w_expr, ↓w_asg, ↓w_aug, ↓w_sret, ↓w_sif, ↓w_rai, ↓w_pass, ↓w_for, ↓w_runS, r_lineN, r_lentri, r_lenrow, r_tri, r_tri1, r_tri0, r_row, r_row1, r_row0, r_isitri, r_isirow, r_sort3, r_mid, r_n1, r_n0, ↓w_rngN, r_tupr, r_frztri, r_frzrow, ↓w_app0, r_cuttri, r_ittri, r_itrow, r_sttri, r_strow, r_atlast, r_put0, r_put10, r_fld0, r_fld1, r_isgrd, r_clsgrd, r_cutrow, r_eqi, r_nei, r_eqb, ↓w_lc2, ↓r_rng, ↓w_bme, ↓w_app, ↓w_ext, r_sortp, r_zip1, r_zip0, r_sort3, r_eql3, r_allT, r_alll, r_addl, r_addt, bd_qlaw, bd_l_right, bd_l_middles_right, bd_l_dip, bd_qmiddle, bi_qmiddle_0, bi_qmiddle_1, bd_qcheck_number, bd_qis_whole, bd_qmiddle_of, bd_l_is_whole, bd_l_rows, bd_l_size, bd_qGround_init, bd_qcheck_rows, bd_qis_row, bd_l_floors, bd_l_over, bd_qfloors, bi_qfloors_0, bd_qcheck_ground, bd_qfloors_of, bd_qnext_rows, bd_qtop, bi_qtop_0, bd_qtop_of, bd_qGround_put, bd_qcheck_spot, bd_qis_spot_of, bd_qis_within, bd_l_jar, bd_l_cell, bd_qGround_eq, gl_0, ↓bnd_ret, ↓bnd_no, ofO_some, Option.bind_some, id, List.getElem?_cons_zero, List.getElem?_cons_succ, List.set_cons_zero, List.set_cons_succ, List.length_cons, List.length_nil, if_true, if_false, Bool.false_eq_true, List.map_cons, List.map_nil, List.cons_append, List.nil_append, List.append_nil, List.replicate_succ, List.replicate_zero, ↓reduceIte, Bool.not_true, Bool.not_false, decide_true, decide_false, Nat.reduceAdd, Nat.reduceLT, Nat.reduceLeDiff, List.length_set, true_and, and_true, Int.cast_ofNat_Int, eq_self, range_row]
      exact ⟨_, _, _, _, rfl, by rw [range_snoc (fun r => rowT (over g r) (r + 1))]⟩
  · rintro σ h ⟨x2, x3, x4, x5, rfl, rfl⟩
    simp (config := {maxSteps := 3000000}) (disch := first | assumption | with_unfolding_all exact id rfl | with_unfolding_all exact Nat.le_of_ble_eq_true rfl | omega) only [r_add, r_sub, r_mulL, r_mulR, r_mod, r_fdiv, r_divmod, r_pint, r_pintb, r_abs, r_min2, r_max2, r_lent, r_lenl, r_lens, r_lenr, r_tupl, r_tupt, r_negi, r_trub, r_trui, r_lt, r_le, r_gt, r_ge, r_isb, r_isnb, r_idxt, r_idxl, r_idxs, r_idxr, r_atT, r_at0, r_at1, r_at2, r_ix30, r_ix31, r_ix32, r_mkF, r_mkT, r_itt, r_itl, r_its, r_itr, r_stt, r_stl, r_sts, r_isii, r_isib, r_isit, r_isil, r_isis, r_k1, r_k2, r_k3, r_k4, r_k5, r_k6, r_k7, r_k8, r_k9, r_k10, r_k11, r_k12, r_k13, r_k14, r_k15, r_wi0, r_wi1, r_bin0, r_line, r_frzb, r_frzi, r_frzn, r_frzs, r_ret, r_no, ↓r_bnd, r_newO, r_getO, r_getO_set, r_setO, r_setO_set, r_ite, r_nox, ↓w_es0, ↓w_es1, ↓w_cO0, ↓w_cO1, ↓w_ifs0, ↓w_ifs1, ↓w_var, ↓w_con, ↓w_glob, ↓w_bin, ↓w_neg, ↓w_not, ↓w_and, ↓w_or, ↓w_ite, ↓w_cmp, ↓w_cmp2, ↓w_cmp3, ↓w_eqo, ↓w_tup, ↓w_lst, ↓w_idx, ↓w_slc, ↓w_fld, ↓w_call, ↓w_make, ↓w_meth, ↓w_prim, ↓w_isi, ↓w_bm, ↓w_lc, ↓w_rng, ↓w_enum, ↓w_zip, ↓w_seq, ↓w_gName, ↓w_gs0, ↓w_gs1, ↓w_gTup, ↓w_gTupL, ↓w_gSub, ↓w_gFld, ↓w_ss0, ↓w_ss1, ↓w_expr, ↓w_asg, ↓w_aug, ↓w_sret, ↓w_sif, ↓w_rai, ↓w_pass, ↓w_for, ↓w_runS, r_lineN, r_lentri, r_lenrow, r_tri, r_tri1, r_tri0, r_row, r_row1, r_row0, r_isitri, r_isirow, r_sort3, r_mid, r_n1, r_n0, ↓w_rngN, r_tupr, r_frztri, r_frzrow, ↓w_app0, r_cuttri, r_ittri, r_itrow, r_sttri, r_strow, r_atlast, r_put0, r_put10, r_fld0, r_fld1, r_isgrd, r_clsgrd, r_cutrow, r_eqi, r_nei, r_eqb, ↓w_lc2, ↓r_rng, ↓w_bme, ↓w_app, ↓w_ext, r_sortp, r_zip1, r_zip0, r_sort3, r_eql3, r_allT, r_alll, r_addl, r_addt, bd_qlaw, bd_l_right, bd_l_middles_right, bd_l_dip, bd_qmiddle, bi_qmiddle_0, bi_qmiddle_1, bd_qcheck_number, bd_qis_whole, bd_qmiddle_of, bd_l_is_whole, bd_l_rows, bd_l_size, bd_qGround_init, bd_qcheck_rows, bd_qis_row, bd_l_floors, bd_l_over, bd_qfloors, bi_qfloors_0, bd_qcheck_ground, bd_qfloors_of, bd_qnext_rows, bd_qtop, bi_qtop_0, bd_qtop_of, bd_qGround_put, bd_qcheck_spot, bd_qis_spot_of, bd_qis_within, bd_l_jar, bd_l_cell, bd_qGround_eq, gl_0, ↓bnd_ret, ↓bnd_no, ofO_some, Option.bind_some, id, List.getElem?_cons_zero, List.getElem?_cons_succ, List.set_cons_zero, List.set_cons_succ, List.length_cons, List.length_nil, if_true, if_false, Bool.false_eq_true, List.map_cons, List.map_nil, List.cons_append, List.nil_append, List.append_nil, List.replicate_succ, List.replicate_zero, ↓reduceIte, Bool.not_true, Bool.not_false, decide_true, decide_false, Nat.reduceAdd, Nat.reduceLT, Nat.reduceLeDiff, List.length_set, true_and, and_true, Int.cast_ofNat_Int, eq_self, tri_def]
theorem f_next_rows (hn : 4 ≤ n) {w : Nat} (hw : w ≤ 12) (g : Nat → Nat → Int) : callS sh n .qnext_rows [tri (w + 1) g] = ret (tri w (over g)) := by
  obtain ⟨k, rfl⟩ : ∃ m, n = m + 2 := ⟨n - 2, by omega⟩
  refine call_pure is_qnext_rows (frz1 _ _) ?_
  have l1 := line1000
  simp (config := {maxSteps := 3000000}) (disch := first | assumption | with_unfolding_all exact id rfl | with_unfolding_all exact Nat.le_of_ble_eq_true rfl | omega) only [r_add, r_sub, r_mulL, r_mulR, r_mod, r_fdiv, r_divmod, r_pint, r_pintb, r_abs, r_min2, r_max2, r_lent, r_lenl, r_lens, r_lenr, r_tupl, r_tupt, r_negi, r_trub, r_trui, r_lt, r_le, r_gt, r_ge, r_isb, r_isnb, r_idxt, r_idxl, r_idxs, r_idxr, r_atT, r_at0, r_at1, r_at2, r_ix30, r_ix31, r_ix32, r_mkF, r_mkT, r_itt, r_itl, r_its, r_itr, r_stt, r_stl, r_sts, r_isii, r_isib, r_isit, r_isil, r_isis, r_k1, r_k2, r_k3, r_k4, r_k5, r_k6, r_k7, r_k8, r_k9, r_k10, r_k11, r_k12, r_k13, r_k14, r_k15, r_wi0, r_wi1, r_bin0, r_line, r_frzb, r_frzi, r_frzn, r_frzs, r_ret, r_no, ↓r_bnd, r_newO, r_getO, r_getO_set, r_setO, r_setO_set, r_ite, r_nox, ↓w_es0, ↓w_es1, ↓w_cO0, ↓w_cO1, ↓w_ifs0, ↓w_ifs1, ↓w_var, ↓w_con, ↓w_glob, ↓w_bin, ↓w_neg, ↓w_not, ↓w_and, ↓w_or, ↓w_ite, ↓w_cmp, ↓w_cmp2, ↓w_cmp3, ↓w_eqo, ↓w_tup, ↓w_lst, ↓w_idx, ↓w_slc, ↓w_fld, ↓w_call, ↓w_make, ↓w_meth, ↓w_prim, ↓w_isi, ↓w_bm, ↓w_lc, ↓w_rng, ↓w_enum, ↓w_zip, ↓w_seq, ↓w_gName, ↓w_gs0, ↓w_gs1, ↓w_gTup, ↓w_gTupL, ↓w_gSub, ↓w_gFld, ↓w_ss0, ↓w_ss1, ↓w_expr, ↓w_asg, ↓w_aug, ↓w_sret, ↓w_sif, ↓w_rai, ↓w_pass, ↓w_for, ↓w_runS, r_lineN, r_lentri, r_lenrow, r_tri, r_tri1, r_tri0, r_row, r_row1, r_row0, r_isitri, r_isirow, r_sort3, r_mid, r_n1, r_n0, ↓w_rngN, r_tupr, r_frztri, r_frzrow, ↓w_app0, r_cuttri, r_ittri, r_itrow, r_sttri, r_strow, r_atlast, r_put0, r_put10, r_fld0, r_fld1, r_isgrd, r_clsgrd, r_cutrow, r_eqi, r_nei, r_eqb, ↓w_lc2, ↓r_rng, ↓w_bme, ↓w_app, ↓w_ext, r_sortp, r_zip1, r_zip0, r_sort3, r_eql3, r_allT, r_alll, r_addl, r_addt, bd_qlaw, bd_l_right, bd_l_middles_right, bd_l_dip, bd_qmiddle, bi_qmiddle_0, bi_qmiddle_1, bd_qcheck_number, bd_qis_whole, bd_qmiddle_of, bd_l_is_whole, bd_l_rows, bd_l_size, bd_qGround_init, bd_qcheck_rows, bd_qis_row, bd_l_floors, bd_l_over, bd_qfloors, bi_qfloors_0, bd_qcheck_ground, bd_qfloors_of, bd_qnext_rows, bd_qtop, bi_qtop_0, bd_qtop_of, bd_qGround_put, bd_qcheck_spot, bd_qis_spot_of, bd_qis_within, bd_l_jar, bd_l_cell, bd_qGround_eq, gl_0, ↓bnd_ret, ↓bnd_no, ofO_some, Option.bind_some, id, List.getElem?_cons_zero, List.getElem?_cons_succ, List.set_cons_zero, List.set_cons_succ, List.length_cons, List.length_nil, if_true, if_false, Bool.false_eq_true, List.map_cons, List.map_nil, List.cons_append, List.nil_append, List.append_nil, List.replicate_succ, List.replicate_zero, ↓reduceIte, Bool.not_true, Bool.not_false, decide_true, decide_false, Nat.reduceAdd, Nat.reduceLT, Nat.reduceLeDiff, List.length_set, true_and, and_true, Int.cast_ofNat_Int, eq_self, s_qnext_rows]
  refine W_forE (fun r => rowT (g r) (r + 1)) (fun k σ h => ∃ x2 x3 x4 x5 : Option T, σ = [some (tri (w + 1) g), some (.ref 0), x2, x3, x4, x5] ∧ h = [.lst ((List.range k).map fun r => rowT (over g r) (r + 1))]) ?_ ⟨_, _, _, _, rfl, rfl⟩ ?_
  · rintro r hr σ h ⟨x2, x3, x4, x5, rfl, rfl⟩
    simp (config := {maxSteps := 3000000}) (disch := first | assumption | with_unfolding_all exact id rfl | with_unfolding_all exact Nat.le_of_ble_eq_true rfl | omega) only [r_add, r_sub, r_mulL, r_mulR, r_mod, r_fdiv, r_divmod, r_pint, r_pintb, r_abs, r_min2, r_max2, r_lent, r_lenl, r_lens, r_lenr, r_tupl, r_tupt, r_negi, r_trub, r_trui, r_lt, r_le, r_gt, r_ge, r_isb, r_isnb, r_idxt, r_idxl, r_idxs, r_idxr, r_atT, r_at0, r_at1, r_at2, r_ix30, r_ix31, r_ix32, r_mkF, r_mkT, r_itt, r_itl, r_its, r_itr, r_stt, r_stl, r_sts, r_isii, r_isib, r_isit, r_isil, r_isis, r_k1, r_k2, r_k3, r_k4, r_k5, r_k6, r_k7, r_k8, r_k9, r_k10, r_k11, r_k12, r_k13, r_k14, r_k15, r_wi0, r_wi1, r_bin0, r_line, r_frzb, r_frzi, r_frzn, r_frzs, r_ret, r_no, ↓r_bnd, r_newO, r_getO, r_getO_set, r_setO, r_setO_set, r_ite, r_nox, ↓w_es0, ↓w_es1, ↓w_cO0, ↓w_cO1, ↓w_ifs0, ↓w_ifs1, ↓w_var, ↓w_con, ↓w_glob, ↓w_bin, ↓w_neg, ↓w_not, ↓w_and, ↓w_or, ↓w_ite, ↓w_cmp, ↓w_cmp2, ↓w_cmp3, ↓w_eqo, ↓w_tup, ↓w_lst, ↓w_idx, ↓w_slc, ↓w_fld, ↓w_call, ↓w_make, ↓w_meth, ↓w_prim, ↓w_isi, ↓w_bm, ↓w_lc, ↓w_rng, ↓w_enum, ↓w_zip, ↓w_seq, ↓w_gName, ↓w_gs0, ↓w_gs1, ↓w_gTup, ↓w_gTupL, ↓w_gSub, ↓w_gFld, ↓w_ss0, ↓w_ss1, ↓w_expr, ↓w_asg, ↓w_aug, ↓w_sret, ↓w_sif, ↓w_rai, ↓w_pass, ↓w_for, ↓w_runS, r_lineN, r_lentri, r_lenrow, r_tri, r_tri1, r_tri0, r_row, r_row1, r_row0, r_isitri, r_isirow, r_sort3, r_mid, r_n1, r_n0, ↓w_rngN, r_tupr, r_frztri, r_frzrow, ↓w_app0, r_cuttri, r_ittri, r_itrow, r_sttri, r_strow, r_atlast, r_put0, r_put10, r_fld0, r_fld1, r_isgrd, r_clsgrd, r_cutrow, r_eqi, r_nei, r_eqb, ↓w_lc2, ↓r_rng, ↓w_bme, ↓w_app, ↓w_ext, r_sortp, r_zip1, r_zip0, r_sort3, r_eql3, r_allT, r_alll, r_addl, r_addt, bd_qlaw, bd_l_right, bd_l_middles_right, bd_l_dip, bd_qmiddle, bi_qmiddle_0, bi_qmiddle_1, bd_qcheck_number, bd_qis_whole, bd_qmiddle_of, bd_l_is_whole, bd_l_rows, bd_l_size, bd_qGround_init, bd_qcheck_rows, bd_qis_row, bd_l_floors, bd_l_over, bd_qfloors, bi_qfloors_0, bd_qcheck_ground, bd_qfloors_of, bd_qnext_rows, bd_qtop, bi_qtop_0, bd_qtop_of, bd_qGround_put, bd_qcheck_spot, bd_qis_spot_of, bd_qis_within, bd_l_jar, bd_l_cell, bd_qGround_eq, gl_0, ↓bnd_ret, ↓bnd_no, ofO_some, Option.bind_some, id, List.getElem?_cons_zero, List.getElem?_cons_succ, List.set_cons_zero, List.set_cons_succ, List.length_cons, List.length_nil, if_true, if_false, Bool.false_eq_true, List.map_cons, List.map_nil, List.cons_append, List.nil_append, List.append_nil, List.replicate_succ, List.replicate_zero, ↓reduceIte, Bool.not_true, Bool.not_false, decide_true, decide_false, Nat.reduceAdd, Nat.reduceLT, Nat.reduceLeDiff, List.length_set, true_and, and_true, Int.cast_ofNat_Int, eq_self]
    refine W_compN (fun a => .int (over g r a)) (fun a ha => ?_) ?_
    · refine M_ret fun h => ?_
      simp (config := {maxSteps := 3000000}) (disch := first | assumption | with_unfolding_all exact id rfl | with_unfolding_all exact Nat.le_of_ble_eq_true rfl | omega) only [r_add, r_sub, r_mulL, r_mulR, r_mod, r_fdiv, r_divmod, r_pint, r_pintb, r_abs, r_min2, r_max2, r_lent, r_lenl, r_lens, r_lenr, r_tupl, r_tupt, r_negi, r_trub, r_trui, r_lt, r_le, r_gt, r_ge, r_isb, r_isnb, r_idxt, r_idxl, r_idxs, r_idxr, r_atT, r_at0, r_at1, r_at2, r_ix30, r_ix31, r_ix32, r_mkF, r_mkT, r_itt, r_itl, r_its, r_itr, r_stt, r_stl, r_sts, r_isii, r_isib, r_isit, r_isil, r_isis, r_k1, r_k2, r_k3, r_k4, r_k5, r_k6, r_k7, r_k8, r_k9, r_k10, r_k11, r_k12, r_k13, r_k14, r_k15, r_wi0, r_wi1, r_bin0, r_line, r_frzb, r_frzi, r_frzn, r_frzs, r_ret, r_no, ↓r_bnd, r_newO, r_getO, r_getO_set, r_setO, r_setO_set, r_ite, r_nox, ↓w_es0, ↓w_es1, ↓w_cO0, ↓w_cO1, ↓w_ifs0, ↓w_ifs1, ↓w_var, ↓w_con, ↓w_glob, ↓w_bin, ↓w_neg, ↓w_not, ↓w_and, ↓w_or, ↓w_ite, ↓w_cmp, ↓w_cmp2, ↓w_cmp3, ↓w_eqo, ↓w_tup, ↓w_lst, ↓w_idx, ↓w_slc, ↓w_fld, ↓w_call, ↓w_make, ↓w_meth, ↓w_prim, ↓w_isi, ↓w_bm, ↓w_lc, ↓w_rng, ↓w_enum, ↓w_zip, ↓w_seq, ↓w_gName, ↓w_gs0, ↓w_gs1, ↓w_gTup, ↓w_gTupL, ↓w_gSub, ↓w_gFld, ↓w_ss0, ↓w_ss1, ↓w_expr, ↓w_asg, ↓w_aug, ↓w_sret, ↓w_sif, ↓w_rai, ↓w_pass, ↓w_for, ↓w_runS, r_lineN, r_lentri, r_lenrow, r_tri, r_tri1, r_tri0, r_row, r_row1, r_row0, r_isitri, r_isirow, r_sort3, r_mid, r_n1, r_n0, ↓w_rngN, r_tupr, r_frztri, r_frzrow, ↓w_app0, r_cuttri, r_ittri, r_itrow, r_sttri, r_strow, r_atlast, r_put0, r_put10, r_fld0, r_fld1, r_isgrd, r_clsgrd, r_cutrow, r_eqi, r_nei, r_eqb, ↓w_lc2, ↓r_rng, ↓w_bme, ↓w_app, ↓w_ext, r_sortp, r_zip1, r_zip0, r_sort3, r_eql3, r_allT, r_alll, r_addl, r_addt, bd_qlaw, bd_l_right, bd_l_middles_right, bd_l_dip, bd_qmiddle, bi_qmiddle_0, bi_qmiddle_1, bd_qcheck_number, bd_qis_whole, bd_qmiddle_of, bd_l_is_whole, bd_l_rows, bd_l_size, bd_qGround_init, bd_qcheck_rows, bd_qis_row, bd_l_floors, bd_l_over, bd_qfloors, bi_qfloors_0, bd_qcheck_ground, bd_qfloors_of, bd_qnext_rows, bd_qtop, bi_qtop_0, bd_qtop_of, bd_qGround_put, bd_qcheck_spot, bd_qis_spot_of, bd_qis_within, bd_l_jar, bd_l_cell, bd_qGround_eq, gl_0, ↓bnd_ret, ↓bnd_no, ofO_some, Option.bind_some, id, List.getElem?_cons_zero, List.getElem?_cons_succ, List.set_cons_zero, List.set_cons_succ, List.length_cons, List.length_nil, if_true, if_false, Bool.false_eq_true, List.map_cons, List.map_nil, List.cons_append, List.nil_append, List.append_nil, List.replicate_succ, List.replicate_zero, ↓reduceIte, Bool.not_true, Bool.not_false, decide_true, decide_false, Nat.reduceAdd, Nat.reduceLT, Nat.reduceLeDiff, List.length_set, true_and, and_true, Int.cast_ofNat_Int, eq_self, f_middle_of]
      rfl
    · refine ⟨by rw [len_range]; omega, ?_⟩
      have l2 : (List.map (fun r => rowT (over g r) (r + 1)) (List.range r)).length < sizeLine := by rw [len_range]; omega
      simp (config := {maxSteps := 3000000}) (disch := first | assumption | with_unfolding_all exact id rfl | with_unfolding_all exact Nat.le_of_ble_eq_true rfl | omega) only [r_add, r_sub, r_mulL, r_mulR, r_mod, r_fdiv, r_divmod, r_pint, r_pintb, r_abs, r_min2, r_max2, r_lent, r_lenl, r_lens, r_lenr, r_tupl, r_tupt, r_negi, r_trub, r_trui, r_lt, r_le, r_gt, r_ge, r_isb, r_isnb, r_idxt, r_idxl, r_idxs, r_idxr, r_atT, r_at0, r_at1, r_at2, r_ix30, r_ix31, r_ix32, r_mkF, r_mkT, r_itt, r_itl, r_its, r_itr, r_stt, r_stl, r_sts, r_isii, r_isib, r_isit, r_isil, r_isis, r_k1, r_k2, r_k3, r_k4, r_k5, r_k6, r_k7, r_k8, r_k9, r_k10, r_k11, r_k12, r_k13, r_k14, r_k15, r_wi0, r_wi1, r_bin0, r_line, r_frzb, r_frzi, r_frzn, r_frzs, r_ret, r_no, ↓r_bnd, r_newO, r_getO, r_getO_set, r_setO, r_setO_set, r_ite, r_nox, ↓w_es0, ↓w_es1, ↓w_cO0, ↓w_cO1, ↓w_ifs0, ↓w_ifs1, ↓w_var, ↓w_con, ↓w_glob, ↓w_bin, ↓w_neg, ↓w_not, ↓w_and, ↓w_or, ↓w_ite, ↓w_cmp, ↓w_cmp2, ↓w_cmp3, ↓w_eqo, ↓w_tup, ↓w_lst, ↓w_idx, ↓w_slc, ↓w_fld, ↓w_call, ↓w_make, ↓w_meth, ↓w_prim, ↓w_isi, ↓w_bm, ↓w_lc, ↓w_rng, ↓w_enum, ↓w_zip, ↓w_seq, ↓w_gName, ↓w_gs0, ↓w_gs1, ↓w_gTup, ↓w_gTupL, ↓w_gSub, ↓w_gFld, ↓w_ss0, ↓w_ss1, ↓w_expr, ↓w_asg, ↓w_aug, ↓w_sret, ↓w_sif, ↓w_rai, ↓w_pass, ↓w_for, ↓w_runS, r_lineN, r_lentri, r_lenrow, r_tri, r_tri1, r_tri0, r_row, r_row1, r_row0, r_isitri, r_isirow, r_sort3, r_mid, r_n1, r_n0, ↓w_rngN, r_tupr, r_frztri, r_frzrow, ↓w_app0, r_cuttri, r_ittri, r_itrow, r_sttri, r_strow, r_atlast, r_put0, r_put10, r_fld0, r_fld1, r_isgrd, r_clsgrd, r_cutrow, r_eqi, r_nei, r_eqb, ↓w_lc2, ↓r_rng, ↓w_bme, ↓w_app, ↓w_ext, r_sortp, r_zip1, r_zip0, r_sort3, r_eql3, r_allT, r_alll, r_addl, r_addt, bd_qlaw, bd_l_right, bd_l_middles_right, bd_l_dip, bd_qmiddle, bi_qmiddle_0, bi_qmiddle_1, bd_qcheck_number, bd_qis_whole, bd_qmiddle_of, bd_l_is_whole, bd_l_rows, bd_l_size, bd_qGround_init, bd_qcheck_rows, bd_qis_row, bd_l_floors, bd_l_over, bd_qfloors, bi_qfloors_0, bd_qcheck_ground, bd_qfloors_of, bd_qnext_rows, bd_qtop, bi_qtop_0, bd_qtop_of, bd_qGround_put, bd_qcheck_spot, bd_qis_spot_of, bd_qis_within, bd_l_jar, bd_l_cell, bd_qGround_eq, gl_0, ↓bnd_ret, ↓bnd_no, ofO_some, Option.bind_some, id, List.getElem?_cons_zero, List.getElem?_cons_succ, List.set_cons_zero, List.set_cons_succ, List.length_cons, List.length_nil, if_true, if_false, Bool.false_eq_true, List.map_cons, List.map_nil, List.cons_append, List.nil_append, List.append_nil, List.replicate_succ, List.replicate_zero, ↓reduceIte, Bool.not_true, Bool.not_false, decide_true, decide_false, Nat.reduceAdd, Nat.reduceLT, Nat.reduceLeDiff, List.length_set, true_and, and_true, Int.cast_ofNat_Int, eq_self, range_row]
      exact ⟨_, _, _, _, rfl, by rw [range_snoc (fun r => rowT (over g r) (r + 1))]⟩
  · rintro σ h ⟨x2, x3, x4, x5, rfl, rfl⟩
    simp (config := {maxSteps := 3000000}) (disch := first | assumption | with_unfolding_all exact id rfl | with_unfolding_all exact Nat.le_of_ble_eq_true rfl | omega) only [r_add, r_sub, r_mulL, r_mulR, r_mod, r_fdiv, r_divmod, r_pint, r_pintb, r_abs, r_min2, r_max2, r_lent, r_lenl, r_lens, r_lenr, r_tupl, r_tupt, r_negi, r_trub, r_trui, r_lt, r_le, r_gt, r_ge, r_isb, r_isnb, r_idxt, r_idxl, r_idxs, r_idxr, r_atT, r_at0, r_at1, r_at2, r_ix30, r_ix31, r_ix32, r_mkF, r_mkT, r_itt, r_itl, r_its, r_itr, r_stt, r_stl, r_sts, r_isii, r_isib, r_isit, r_isil, r_isis, r_k1, r_k2, r_k3, r_k4, r_k5, r_k6, r_k7, r_k8, r_k9, r_k10, r_k11, r_k12, r_k13, r_k14, r_k15, r_wi0, r_wi1, r_bin0, r_line, r_frzb, r_frzi, r_frzn, r_frzs, r_ret, r_no, ↓r_bnd, r_newO, r_getO, r_getO_set, r_setO, r_setO_set, r_ite, r_nox, ↓w_es0, ↓w_es1, ↓w_cO0, ↓w_cO1, ↓w_ifs0, ↓w_ifs1, ↓w_var, ↓w_con, ↓w_glob, ↓w_bin, ↓w_neg, ↓w_not, ↓w_and, ↓w_or, ↓w_ite, ↓w_cmp, ↓w_cmp2, ↓w_cmp3, ↓w_eqo, ↓w_tup, ↓w_lst, ↓w_idx, ↓w_slc, ↓w_fld, ↓w_call, ↓w_make, ↓w_meth, ↓w_prim, ↓w_isi, ↓w_bm, ↓w_lc, ↓w_rng, ↓w_enum, ↓w_zip, ↓w_seq, ↓w_gName, ↓w_gs0, ↓w_gs1, ↓w_gTup, ↓w_gTupL, ↓w_gSub, ↓w_gFld, ↓w_ss0, ↓w_ss1, ↓w_expr, ↓w_asg, ↓w_aug, ↓w_sret, ↓w_sif, ↓w_rai, ↓w_pass, ↓w_for, ↓w_runS, r_lineN, r_lentri, r_lenrow, r_tri, r_tri1, r_tri0, r_row, r_row1, r_row0, r_isitri, r_isirow, r_sort3, r_mid, r_n1, r_n0, ↓w_rngN, r_tupr, r_frztri, r_frzrow, ↓w_app0, r_cuttri, r_ittri, r_itrow, r_sttri, r_strow, r_atlast, r_put0, r_put10, r_fld0, r_fld1, r_isgrd, r_clsgrd, r_cutrow, r_eqi, r_nei, r_eqb, ↓w_lc2, ↓r_rng, ↓w_bme, ↓w_app, ↓w_ext, r_sortp, r_zip1, r_zip0, r_sort3, r_eql3, r_allT, r_alll, r_addl, r_addt, bd_qlaw, bd_l_right, bd_l_middles_right, bd_l_dip, bd_qmiddle, bi_qmiddle_0, bi_qmiddle_1, bd_qcheck_number, bd_qis_whole, bd_qmiddle_of, bd_l_is_whole, bd_l_rows, bd_l_size, bd_qGround_init, bd_qcheck_rows, bd_qis_row, bd_l_floors, bd_l_over, bd_qfloors, bi_qfloors_0, bd_qcheck_ground, bd_qfloors_of, bd_qnext_rows, bd_qtop, bi_qtop_0, bd_qtop_of, bd_qGround_put, bd_qcheck_spot, bd_qis_spot_of, bd_qis_within, bd_l_jar, bd_l_cell, bd_qGround_eq, gl_0, ↓bnd_ret, ↓bnd_no, ofO_some, Option.bind_some, id, List.getElem?_cons_zero, List.getElem?_cons_succ, List.set_cons_zero, List.set_cons_succ, List.length_cons, List.length_nil, if_true, if_false, Bool.false_eq_true, List.map_cons, List.map_nil, List.cons_append, List.nil_append, List.append_nil, List.replicate_succ, List.replicate_zero, ↓reduceIte, Bool.not_true, Bool.not_false, decide_true, decide_false, Nat.reduceAdd, Nat.reduceLT, Nat.reduceLeDiff, List.length_set, true_and, and_true, Int.cast_ofNat_Int, eq_self, tri_def]
theorem f_over' (hn : 2 ≤ n) {w : Nat} (h1 : 1 ≤ w) (hw : w ≤ 12) (g : Nat → Nat → Int) : callS sh n .l_over [tri w g] = ret (tri (w - 1) (over g)) := by
  obtain ⟨v, rfl⟩ : ∃ v, w = v + 1 := ⟨w - 1, by omega⟩
  exact f_over hn (by omega) g
theorem f_next' (hn : 4 ≤ n) {w : Nat} (h1 : 1 ≤ w) (hw : w ≤ 12) (g : Nat → Nat → Int) : callS sh n .qnext_rows [tri w g] = ret (tri (w - 1) (over g)) := by
  obtain ⟨v, rfl⟩ : ∃ v, w = v + 1 := ⟨w - 1, by omega⟩
  exact f_next_rows hn (by omega) g
theorem f_lfloors (hn : 4 ≤ n) {w : Nat} (h1 : 1 ≤ w) (hw : w ≤ 12) (g : Nat → Nat → Int) : callS sh n .l_floors [tri w g] = ret (.lst (floL w g w)) := by
  obtain ⟨k, rfl⟩ : ∃ m, n = m + 2 := ⟨n - 2, by omega⟩
  refine call_pure is_l_floors (frz1 _ _) ?_
  have l1 := line1000
  simp (config := {maxSteps := 3000000}) (disch := first | assumption | with_unfolding_all exact id rfl | with_unfolding_all exact Nat.le_of_ble_eq_true rfl | omega) only [r_add, r_sub, r_mulL, r_mulR, r_mod, r_fdiv, r_divmod, r_pint, r_pintb, r_abs, r_min2, r_max2, r_lent, r_lenl, r_lens, r_lenr, r_tupl, r_tupt, r_negi, r_trub, r_trui, r_lt, r_le, r_gt, r_ge, r_isb, r_isnb, r_idxt, r_idxl, r_idxs, r_idxr, r_atT, r_at0, r_at1, r_at2, r_ix30, r_ix31, r_ix32, r_mkF, r_mkT, r_itt, r_itl, r_its, r_itr, r_stt, r_stl, r_sts, r_isii, r_isib, r_isit, r_isil, r_isis, r_k1, r_k2, r_k3, r_k4, r_k5, r_k6, r_k7, r_k8, r_k9, r_k10, r_k11, r_k12, r_k13, r_k14, r_k15, r_wi0, r_wi1, r_bin0, r_line, r_frzb, r_frzi, r_frzn, r_frzs, r_ret, r_no, ↓r_bnd, r_newO, r_getO, r_getO_set, r_setO, r_setO_set, r_ite, r_nox, ↓w_es0, ↓w_es1, ↓w_cO0, ↓w_cO1, ↓w_ifs0, ↓w_ifs1, ↓w_var, ↓w_con, ↓w_glob, ↓w_bin, ↓w_neg, ↓w_not, ↓w_and, ↓w_or, ↓w_ite, ↓w_cmp, ↓w_cmp2, ↓w_cmp3, ↓w_eqo, ↓w_tup, ↓w_lst, ↓w_idx, ↓w_slc, ↓w_fld, ↓w_call, ↓w_make, ↓w_meth, ↓w_prim, ↓w_isi, ↓w_bm, ↓w_lc, ↓w_rng, ↓w_enum, ↓w_zip, ↓w_seq, ↓w_gName, ↓w_gs0, ↓w_gs1, ↓w_gTup, ↓w_gTupL, ↓w_gSub, ↓w_gFld, ↓w_ss0, ↓w_ss1, ↓w_expr, ↓w_asg, ↓w_aug, ↓w_sret, ↓w_sif, ↓w_rai, ↓w_pass, ↓w_for, ↓w_runS, r_lineN, r_lentri, r_lenrow, r_tri, r_tri1, r_tri0, r_row, r_row1, r_row0, r_isitri, r_isirow, r_sort3, r_mid, r_n1, r_n0, ↓w_rngN, r_tupr, r_frztri, r_frzrow, ↓w_app0, r_cuttri, r_ittri, r_itrow, r_sttri, r_strow, r_atlast, r_put0, r_put10, r_fld0, r_fld1, r_isgrd, r_clsgrd, r_cutrow, r_eqi, r_nei, r_eqb, ↓w_lc2, ↓r_rng, ↓w_bme, ↓w_app, ↓w_ext, r_sortp, r_zip1, r_zip0, r_sort3, r_eql3, r_allT, r_alll, r_addl, r_addt, bd_qlaw, bd_l_right, bd_l_middles_right, bd_l_dip, bd_qmiddle, bi_qmiddle_0, bi_qmiddle_1, bd_qcheck_number, bd_qis_whole, bd_qmiddle_of, bd_l_is_whole, bd_l_rows, bd_l_size, bd_qGround_init, bd_qcheck_rows, bd_qis_row, bd_l_floors, bd_l_over, bd_qfloors, bi_qfloors_0, bd_qcheck_ground, bd_qfloors_of, bd_qnext_rows, bd_qtop, bi_qtop_0, bd_qtop_of, bd_qGround_put, bd_qcheck_spot, bd_qis_spot_of, bd_qis_within, bd_l_jar, bd_l_cell, bd_qGround_eq, gl_0, ↓bnd_ret, ↓bnd_no, ofO_some, Option.bind_some, id, List.getElem?_cons_zero, List.getElem?_cons_succ, List.set_cons_zero, List.set_cons_succ, List.length_cons, List.length_nil, if_true, if_false, Bool.false_eq_true, List.map_cons, List.map_nil, List.cons_append, List.nil_append, List.append_nil, List.replicate_succ, List.replicate_zero, ↓reduceIte, Bool.not_true, Bool.not_false, decide_true, decide_false, Nat.reduceAdd, Nat.reduceLT, Nat.reduceLeDiff, List.length_set, true_and, and_true, Int.cast_ofNat_Int, eq_self, s_l_floors, w_swhl]
  refine W_whl (fun k σ h => σ = [some (tri w g), some (.ref 0)] ∧ h = [.lst (floL w g (k + 1))]) (w - 1) turns 0 (by unfold turns; omega) ?_ ⟨rfl, rfl⟩ ?_
  · rintro j _ hj σ h ⟨rfl, rfl⟩
    have hj' : (1 : Int) < ((w - j : Nat) : Int) := by omega
    have l2 : (floL w g (j + 1)).length < sizeLine := by unfold floL; rw [len_range]; omega
    have e5 : tri (w - (j + 1)) (flo g (j + 1)) = tri (w - j - 1) (over (flo g j)) := rfl
    unfold floL at l2 ⊢
    simp (config := {maxSteps := 3000000}) (disch := first | assumption | with_unfolding_all exact id rfl | with_unfolding_all exact Nat.le_of_ble_eq_true rfl | omega) only [r_add, r_sub, r_mulL, r_mulR, r_mod, r_fdiv, r_divmod, r_pint, r_pintb, r_abs, r_min2, r_max2, r_lent, r_lenl, r_lens, r_lenr, r_tupl, r_tupt, r_negi, r_trub, r_trui, r_lt, r_le, r_gt, r_ge, r_isb, r_isnb, r_idxt, r_idxl, r_idxs, r_idxr, r_atT, r_at0, r_at1, r_at2, r_ix30, r_ix31, r_ix32, r_mkF, r_mkT, r_itt, r_itl, r_its, r_itr, r_stt, r_stl, r_sts, r_isii, r_isib, r_isit, r_isil, r_isis, r_k1, r_k2, r_k3, r_k4, r_k5, r_k6, r_k7, r_k8, r_k9, r_k10, r_k11, r_k12, r_k13, r_k14, r_k15, r_wi0, r_wi1, r_bin0, r_line, r_frzb, r_frzi, r_frzn, r_frzs, r_ret, r_no, ↓r_bnd, r_newO, r_getO, r_getO_set, r_setO, r_setO_set, r_ite, r_nox, ↓w_es0, ↓w_es1, ↓w_cO0, ↓w_cO1, ↓w_ifs0, ↓w_ifs1, ↓w_var, ↓w_con, ↓w_glob, ↓w_bin, ↓w_neg, ↓w_not, ↓w_and, ↓w_or, ↓w_ite, ↓w_cmp, ↓w_cmp2, ↓w_cmp3, ↓w_eqo, ↓w_tup, ↓w_lst, ↓w_idx, ↓w_slc, ↓w_fld, ↓w_call, ↓w_make, ↓w_meth, ↓w_prim, ↓w_isi, ↓w_bm, ↓w_lc, ↓w_rng, ↓w_enum, ↓w_zip, ↓w_seq, ↓w_gName, ↓w_gs0, ↓w_gs1, ↓w_gTup, ↓w_gTupL, ↓w_gSub, ↓w_gFld, ↓w_ss0, ↓w_ss1, ↓w_expr, ↓w_asg, ↓w_aug, ↓w_sret, ↓w_sif, ↓w_rai, ↓w_pass, ↓w_for, ↓w_runS, r_lineN, r_lentri, r_lenrow, r_tri, r_tri1, r_tri0, r_row, r_row1, r_row0, r_isitri, r_isirow, r_sort3, r_mid, r_n1, r_n0, ↓w_rngN, r_tupr, r_frztri, r_frzrow, ↓w_app0, r_cuttri, r_ittri, r_itrow, r_sttri, r_strow, r_atlast, r_put0, r_put10, r_fld0, r_fld1, r_isgrd, r_clsgrd, r_cutrow, r_eqi, r_nei, r_eqb, ↓w_lc2, ↓r_rng, ↓w_bme, ↓w_app, ↓w_ext, r_sortp, r_zip1, r_zip0, r_sort3, r_eql3, r_allT, r_alll, r_addl, r_addt, bd_qlaw, bd_l_right, bd_l_middles_right, bd_l_dip, bd_qmiddle, bi_qmiddle_0, bi_qmiddle_1, bd_qcheck_number, bd_qis_whole, bd_qmiddle_of, bd_l_is_whole, bd_l_rows, bd_l_size, bd_qGround_init, bd_qcheck_rows, bd_qis_row, bd_l_floors, bd_l_over, bd_qfloors, bi_qfloors_0, bd_qcheck_ground, bd_qfloors_of, bd_qnext_rows, bd_qtop, bi_qtop_0, bd_qtop_of, bd_qGround_put, bd_qcheck_spot, bd_qis_spot_of, bd_qis_within, bd_l_jar, bd_l_cell, bd_qGround_eq, gl_0, ↓bnd_ret, ↓bnd_no, ofO_some, Option.bind_some, id, List.getElem?_cons_zero, List.getElem?_cons_succ, List.set_cons_zero, List.set_cons_succ, List.length_cons, List.length_nil, if_true, if_false, Bool.false_eq_true, List.map_cons, List.map_nil, List.cons_append, List.nil_append, List.append_nil, List.replicate_succ, List.replicate_zero, ↓reduceIte, Bool.not_true, Bool.not_false, decide_true, decide_false, Nat.reduceAdd, Nat.reduceLT, Nat.reduceLeDiff, List.length_set, true_and, and_true, Int.cast_ofNat_Int, eq_self, f_over', hj']
    rw [range_snoc' (fun s => tri (w - s) (flo g s)) _ _ e5.symm]
  · rintro σ h ⟨rfl, rfl⟩
    have hj' : ¬ (1 : Int) < ((w - (0 + (w - 1)) : Nat) : Int) := by omega
    unfold floL
    simp (config := {maxSteps := 3000000}) (disch := first | assumption | with_unfolding_all exact id rfl | with_unfolding_all exact Nat.le_of_ble_eq_true rfl | omega) only [r_add, r_sub, r_mulL, r_mulR, r_mod, r_fdiv, r_divmod, r_pint, r_pintb, r_abs, r_min2, r_max2, r_lent, r_lenl, r_lens, r_lenr, r_tupl, r_tupt, r_negi, r_trub, r_trui, r_lt, r_le, r_gt, r_ge, r_isb, r_isnb, r_idxt, r_idxl, r_idxs, r_idxr, r_atT, r_at0, r_at1, r_at2, r_ix30, r_ix31, r_ix32, r_mkF, r_mkT, r_itt, r_itl, r_its, r_itr, r_stt, r_stl, r_sts, r_isii, r_isib, r_isit, r_isil, r_isis, r_k1, r_k2, r_k3, r_k4, r_k5, r_k6, r_k7, r_k8, r_k9, r_k10, r_k11, r_k12, r_k13, r_k14, r_k15, r_wi0, r_wi1, r_bin0, r_line, r_frzb, r_frzi, r_frzn, r_frzs, r_ret, r_no, ↓r_bnd, r_newO, r_getO, r_getO_set, r_setO, r_setO_set, r_ite, r_nox, ↓w_es0, ↓w_es1, ↓w_cO0, ↓w_cO1, ↓w_ifs0, ↓w_ifs1, ↓w_var, ↓w_con, ↓w_glob, ↓w_bin, ↓w_neg, ↓w_not, ↓w_and, ↓w_or, ↓w_ite, ↓w_cmp, ↓w_cmp2, ↓w_cmp3, ↓w_eqo, ↓w_tup, ↓w_lst, ↓w_idx, ↓w_slc, ↓w_fld, ↓w_call, ↓w_make, ↓w_meth, ↓w_prim, ↓w_isi, ↓w_bm, ↓w_lc, ↓w_rng, ↓w_enum, ↓w_zip, ↓w_seq, ↓w_gName, ↓w_gs0, ↓w_gs1, ↓w_gTup, ↓w_gTupL, ↓w_gSub, ↓w_gFld, ↓w_ss0, ↓w_ss1, ↓w_expr, ↓w_asg, ↓w_aug, ↓w_sret, ↓w_sif, ↓w_rai, ↓w_pass, ↓w_for, ↓w_runS, r_lineN, r_lentri, r_lenrow, r_tri, r_tri1, r_tri0, r_row, r_row1, r_row0, r_isitri, r_isirow, r_sort3, r_mid, r_n1, r_n0, ↓w_rngN, r_tupr, r_frztri, r_frzrow, ↓w_app0, r_cuttri, r_ittri, r_itrow, r_sttri, r_strow, r_atlast, r_put0, r_put10, r_fld0, r_fld1, r_isgrd, r_clsgrd, r_cutrow, r_eqi, r_nei, r_eqb, ↓w_lc2, ↓r_rng, ↓w_bme, ↓w_app, ↓w_ext, r_sortp, r_zip1, r_zip0, r_sort3, r_eql3, r_allT, r_alll, r_addl, r_addt, bd_qlaw, bd_l_right, bd_l_middles_right, bd_l_dip, bd_qmiddle, bi_qmiddle_0, bi_qmiddle_1, bd_qcheck_number, bd_qis_whole, bd_qmiddle_of, bd_l_is_whole, bd_l_rows, bd_l_size, bd_qGround_init, bd_qcheck_rows, bd_qis_row, bd_l_floors, bd_l_over, bd_qfloors, bi_qfloors_0, bd_qcheck_ground, bd_qfloors_of, bd_qnext_rows, bd_qtop, bi_qtop_0, bd_qtop_of, bd_qGround_put, bd_qcheck_spot, bd_qis_spot_of, bd_qis_within, bd_l_jar, bd_l_cell, bd_qGround_eq, gl_0, ↓bnd_ret, ↓bnd_no, ofO_some, Option.bind_some, id, List.getElem?_cons_zero, List.getElem?_cons_succ, List.set_cons_zero, List.set_cons_succ, List.length_cons, List.length_nil, if_true, if_false, Bool.false_eq_true, List.map_cons, List.map_nil, List.cons_append, List.nil_append, List.append_nil, List.replicate_succ, List.replicate_zero, ↓reduceIte, Bool.not_true, Bool.not_false, decide_true, decide_false, Nat.reduceAdd, Nat.reduceLT, Nat.reduceLeDiff, List.length_set, true_and, and_true, Int.cast_ofNat_Int, eq_self, hj']
    rw [show 0 + (w - 1) + 1 = w by omega]
    exact Pln.ref0 (Pln.floL w g w)
theorem f_floors_of (hn : 6 ≤ n) {w : Nat} (h1 : 1 ≤ w) (hw : w ≤ 12) (g : Nat → Nat → Int) : callS sh n .qfloors_of [tri w g] = ret (.tup (floL w g w)) := by
  obtain ⟨k, rfl⟩ : ∃ m, n = m + 2 := ⟨n - 2, by omega⟩
  refine call_pure is_qfloors_of (frz1 _ _) ?_
  have l1 := line1000
  simp (config := {maxSteps := 3000000}) (disch := first | assumption | with_unfolding_all exact id rfl | with_unfolding_all exact Nat.le_of_ble_eq_true rfl | omega) only [r_add, r_sub, r_mulL, r_mulR, r_mod, r_fdiv, r_divmod, r_pint, r_pintb, r_abs, r_min2, r_max2, r_lent, r_lenl, r_lens, r_lenr, r_tupl, r_tupt, r_negi, r_trub, r_trui, r_lt, r_le, r_gt, r_ge, r_isb, r_isnb, r_idxt, r_idxl, r_idxs, r_idxr, r_atT, r_at0, r_at1, r_at2, r_ix30, r_ix31, r_ix32, r_mkF, r_mkT, r_itt, r_itl, r_its, r_itr, r_stt, r_stl, r_sts, r_isii, r_isib, r_isit, r_isil, r_isis, r_k1, r_k2, r_k3, r_k4, r_k5, r_k6, r_k7, r_k8, r_k9, r_k10, r_k11, r_k12, r_k13, r_k14, r_k15, r_wi0, r_wi1, r_bin0, r_line, r_frzb, r_frzi, r_frzn, r_frzs, r_ret, r_no, ↓r_bnd, r_newO, r_getO, r_getO_set, r_setO, r_setO_set, r_ite, r_nox, ↓w_es0, ↓w_es1, ↓w_cO0, ↓w_cO1, ↓w_ifs0, ↓w_ifs1, ↓w_var, ↓w_con, ↓w_glob, ↓w_bin, ↓w_neg, ↓w_not, ↓w_and, ↓w_or, ↓w_ite, ↓w_cmp, ↓w_cmp2, ↓w_cmp3, ↓w_eqo, ↓w_tup, ↓w_lst, ↓w_idx, ↓w_slc, ↓w_fld, ↓w_call, ↓w_make, ↓w_meth, ↓w_prim, ↓w_isi, ↓w_bm, ↓w_lc, ↓w_rng, ↓w_enum, ↓w_zip, ↓w_seq, ↓w_gName, ↓w_gs0, ↓w_gs1, ↓w_gTup, ↓w_gTupL, ↓w_gSub, ↓w_gFld, ↓w_ss0, ↓w_ss1, ↓w_expr, ↓w_asg, ↓w_aug, ↓w_sret, ↓w_sif, ↓w_rai, ↓w_pass, ↓w_for, ↓w_runS, r_lineN, r_lentri, r_lenrow, r_tri, r_tri1, r_tri0, r_row, r_row1, r_row0, r_isitri, r_isirow, r_sort3, r_mid, r_n1, r_n0, ↓w_rngN, r_tupr, r_frztri, r_frzrow, ↓w_app0, r_cuttri, r_ittri, r_itrow, r_sttri, r_strow, r_atlast, r_put0, r_put10, r_fld0, r_fld1, r_isgrd, r_clsgrd, r_cutrow, r_eqi, r_nei, r_eqb, ↓w_lc2, ↓r_rng, ↓w_bme, ↓w_app, ↓w_ext, r_sortp, r_zip1, r_zip0, r_sort3, r_eql3, r_allT, r_alll, r_addl, r_addt, bd_qlaw, bd_l_right, bd_l_middles_right, bd_l_dip, bd_qmiddle, bi_qmiddle_0, bi_qmiddle_1, bd_qcheck_number, bd_qis_whole, bd_qmiddle_of, bd_l_is_whole, bd_l_rows, bd_l_size, bd_qGround_init, bd_qcheck_rows, bd_qis_row, bd_l_floors, bd_l_over, bd_qfloors, bi_qfloors_0, bd_qcheck_ground, bd_qfloors_of, bd_qnext_rows, bd_qtop, bi_qtop_0, bd_qtop_of, bd_qGround_put, bd_qcheck_spot, bd_qis_spot_of, bd_qis_within, bd_l_jar, bd_l_cell, bd_qGround_eq, gl_0, ↓bnd_ret, ↓bnd_no, ofO_some, Option.bind_some, id, List.getElem?_cons_zero, List.getElem?_cons_succ, List.set_cons_zero, List.set_cons_succ, List.length_cons, List.length_nil, if_true, if_false, Bool.false_eq_true, List.map_cons, List.map_nil, List.cons_append, List.nil_append, List.append_nil, List.replicate_succ, List.replicate_zero, ↓reduceIte, Bool.not_true, Bool.not_false, decide_true, decide_false, Nat.reduceAdd, Nat.reduceLT, Nat.reduceLeDiff, List.length_set, true_and, and_true, Int.cast_ofNat_Int, eq_self, s_qfloors_of, w_swhl]
  refine W_whl (fun k σ h => σ = [some (tri w g), some (.ref 0)] ∧ h = [.lst (floL w g (k + 1))]) (w - 1) turns 0 (by unfold turns; omega) ?_ ⟨rfl, rfl⟩ ?_
  · rintro j _ hj σ h ⟨rfl, rfl⟩
    have hj' : (1 : Int) < ((w - j : Nat) : Int) := by omega
    have l2 : (floL w g (j + 1)).length < sizeLine := by unfold floL; rw [len_range]; omega
    have e5 : tri (w - (j + 1)) (flo g (j + 1)) = tri (w - j - 1) (over (flo g j)) := rfl
    unfold floL at l2 ⊢
    simp (config := {maxSteps := 3000000}) (disch := first | assumption | with_unfolding_all exact id rfl | with_unfolding_all exact Nat.le_of_ble_eq_true rfl | omega) only [r_add, r_sub, r_mulL, r_mulR, r_mod, r_fdiv, r_divmod, r_pint, r_pintb, r_abs, r_min2, r_max2, r_lent, r_lenl, r_lens, r_lenr, r_tupl, r_tupt, r_negi, r_trub, r_trui, r_lt, r_le, r_gt, r_ge, r_isb, r_isnb, r_idxt, r_idxl, r_idxs, r_idxr, r_atT, r_at0, r_at1, r_at2, r_ix30, r_ix31, r_ix32, r_mkF, r_mkT, r_itt, r_itl, r_its, r_itr, r_stt, r_stl, r_sts, r_isii, r_isib, r_isit, r_isil, r_isis, r_k1, r_k2, r_k3, r_k4, r_k5, r_k6, r_k7, r_k8, r_k9, r_k10, r_k11, r_k12, r_k13, r_k14, r_k15, r_wi0, r_wi1, r_bin0, r_line, r_frzb, r_frzi, r_frzn, r_frzs, r_ret, r_no, ↓r_bnd, r_newO, r_getO, r_getO_set, r_setO, r_setO_set, r_ite, r_nox, ↓w_es0, ↓w_es1, ↓w_cO0, ↓w_cO1, ↓w_ifs0, ↓w_ifs1, ↓w_var, ↓w_con, ↓w_glob, ↓w_bin, ↓w_neg, ↓w_not, ↓w_and, ↓w_or, ↓w_ite, ↓w_cmp, ↓w_cmp2, ↓w_cmp3, ↓w_eqo, ↓w_tup, ↓w_lst, ↓w_idx, ↓w_slc, ↓w_fld, ↓w_call, ↓w_make, ↓w_meth, ↓w_prim, ↓w_isi, ↓w_bm, ↓w_lc, ↓w_rng, ↓w_enum, ↓w_zip, ↓w_seq, ↓w_gName, ↓w_gs0, ↓w_gs1, ↓w_gTup, ↓w_gTupL, ↓w_gSub, ↓w_gFld, ↓w_ss0, ↓w_ss1, ↓w_expr, ↓w_asg, ↓w_aug, ↓w_sret, ↓w_sif, ↓w_rai, ↓w_pass, ↓w_for, ↓w_runS, r_lineN, r_lentri, r_lenrow, r_tri, r_tri1, r_tri0, r_row, r_row1, r_row0, r_isitri, r_isirow, r_sort3, r_mid, r_n1, r_n0, ↓w_rngN, r_tupr, r_frztri, r_frzrow, ↓w_app0, r_cuttri, r_ittri, r_itrow, r_sttri, r_strow, r_atlast, r_put0, r_put10, r_fld0, r_fld1, r_isgrd, r_clsgrd, r_cutrow, r_eqi, r_nei, r_eqb, ↓w_lc2, ↓r_rng, ↓w_bme, ↓w_app, ↓w_ext, r_sortp, r_zip1, r_zip0, r_sort3, r_eql3, r_allT, r_alll, r_addl, r_addt, bd_qlaw, bd_l_right, bd_l_middles_right, bd_l_dip, bd_qmiddle, bi_qmiddle_0, bi_qmiddle_1, bd_qcheck_number, bd_qis_whole, bd_qmiddle_of, bd_l_is_whole, bd_l_rows, bd_l_size, bd_qGround_init, bd_qcheck_rows, bd_qis_row, bd_l_floors, bd_l_over, bd_qfloors, bi_qfloors_0, bd_qcheck_ground, bd_qfloors_of, bd_qnext_rows, bd_qtop, bi_qtop_0, bd_qtop_of, bd_qGround_put, bd_qcheck_spot, bd_qis_spot_of, bd_qis_within, bd_l_jar, bd_l_cell, bd_qGround_eq, gl_0, ↓bnd_ret, ↓bnd_no, ofO_some, Option.bind_some, id, List.getElem?_cons_zero, List.getElem?_cons_succ, List.set_cons_zero, List.set_cons_succ, List.length_cons, List.length_nil, if_true, if_false, Bool.false_eq_true, List.map_cons, List.map_nil, List.cons_append, List.nil_append, List.append_nil, List.replicate_succ, List.replicate_zero, ↓reduceIte, Bool.not_true, Bool.not_false, decide_true, decide_false, Nat.reduceAdd, Nat.reduceLT, Nat.reduceLeDiff, List.length_set, true_and, and_true, Int.cast_ofNat_Int, eq_self, f_next', hj']
    rw [range_snoc' (fun s => tri (w - s) (flo g s)) _ _ e5.symm]
  · rintro σ h ⟨rfl, rfl⟩
    have hj' : ¬ (1 : Int) < ((w - (0 + (w - 1)) : Nat) : Int) := by omega
    unfold floL
    simp (config := {maxSteps := 3000000}) (disch := first | assumption | with_unfolding_all exact id rfl | with_unfolding_all exact Nat.le_of_ble_eq_true rfl | omega) only [r_add, r_sub, r_mulL, r_mulR, r_mod, r_fdiv, r_divmod, r_pint, r_pintb, r_abs, r_min2, r_max2, r_lent, r_lenl, r_lens, r_lenr, r_tupl, r_tupt, r_negi, r_trub, r_trui, r_lt, r_le, r_gt, r_ge, r_isb, r_isnb, r_idxt, r_idxl, r_idxs, r_idxr, r_atT, r_at0, r_at1, r_at2, r_ix30, r_ix31, r_ix32, r_mkF, r_mkT, r_itt, r_itl, r_its, r_itr, r_stt, r_stl, r_sts, r_isii, r_isib, r_isit, r_isil, r_isis, r_k1, r_k2, r_k3, r_k4, r_k5, r_k6, r_k7, r_k8, r_k9, r_k10, r_k11, r_k12, r_k13, r_k14, r_k15, r_wi0, r_wi1, r_bin0, r_line, r_frzb, r_frzi, r_frzn, r_frzs, r_ret, r_no, ↓r_bnd, r_newO, r_getO, r_getO_set, r_setO, r_setO_set, r_ite, r_nox, ↓w_es0, ↓w_es1, ↓w_cO0, ↓w_cO1, ↓w_ifs0, ↓w_ifs1, ↓w_var, ↓w_con, ↓w_glob, ↓w_bin, ↓w_neg, ↓w_not, ↓w_and, ↓w_or, ↓w_ite, ↓w_cmp, ↓w_cmp2, ↓w_cmp3, ↓w_eqo, ↓w_tup, ↓w_lst, ↓w_idx, ↓w_slc, ↓w_fld, ↓w_call, ↓w_make, ↓w_meth, ↓w_prim, ↓w_isi, ↓w_bm, ↓w_lc, ↓w_rng, ↓w_enum, ↓w_zip, ↓w_seq, ↓w_gName, ↓w_gs0, ↓w_gs1, ↓w_gTup, ↓w_gTupL, ↓w_gSub, ↓w_gFld, ↓w_ss0, ↓w_ss1, ↓w_expr, ↓w_asg, ↓w_aug, ↓w_sret, ↓w_sif, ↓w_rai, ↓w_pass, ↓w_for, ↓w_runS, r_lineN, r_lentri, r_lenrow, r_tri, r_tri1, r_tri0, r_row, r_row1, r_row0, r_isitri, r_isirow, r_sort3, r_mid, r_n1, r_n0, ↓w_rngN, r_tupr, r_frztri, r_frzrow, ↓w_app0, r_cuttri, r_ittri, r_itrow, r_sttri, r_strow, r_atlast, r_put0, r_put10, r_fld0, r_fld1, r_isgrd, r_clsgrd, r_cutrow, r_eqi, r_nei, r_eqb, ↓w_lc2, ↓r_rng, ↓w_bme, ↓w_app, ↓w_ext, r_sortp, r_zip1, r_zip0, r_sort3, r_eql3, r_allT, r_alll, r_addl, r_addt, bd_qlaw, bd_l_right, bd_l_middles_right, bd_l_dip, bd_qmiddle, bi_qmiddle_0, bi_qmiddle_1, bd_qcheck_number, bd_qis_whole, bd_qmiddle_of, bd_l_is_whole, bd_l_rows, bd_l_size, bd_qGround_init, bd_qcheck_rows, bd_qis_row, bd_l_floors, bd_l_over, bd_qfloors, bi_qfloors_0, bd_qcheck_ground, bd_qfloors_of, bd_qnext_rows, bd_qtop, bi_qtop_0, bd_qtop_of, bd_qGround_put, bd_qcheck_spot, bd_qis_spot_of, bd_qis_within, bd_l_jar, bd_l_cell, bd_qGround_eq, gl_0, ↓bnd_ret, ↓bnd_no, ofO_some, Option.bind_some, id, List.getElem?_cons_zero, List.getElem?_cons_succ, List.set_cons_zero, List.set_cons_succ, List.length_cons, List.length_nil, if_true, if_false, Bool.false_eq_true, List.map_cons, List.map_nil, List.cons_append, List.nil_append, List.append_nil, List.replicate_succ, List.replicate_zero, ↓reduceIte, Bool.not_true, Bool.not_false, decide_true, decide_false, Nat.reduceAdd, Nat.reduceLT, Nat.reduceLeDiff, List.length_set, true_and, and_true, Int.cast_ofNat_Int, eq_self, hj']
    rw [show 0 + (w - 1) + 1 = w by omega]
    exact Pln.fr (Pln.tup (Pln.floL w g w)) _ _
theorem f_top_of (hn : 7 ≤ n) {w : Nat} (h1 : 1 ≤ w) (hw : w ≤ 12) (g : Nat → Nat → Int) : callS sh n .qtop_of [tri w g] = ret (.int (flo g (w - 1) 0 0)) := by
  obtain ⟨k, rfl⟩ : ∃ m, n = m + 2 := ⟨n - 2, by omega⟩
  refine call_pure is_qtop_of (frz1 _ _) ?_
  have e : L2.atI (floL w g w) (-1) = some (tri 1 (flo g (w - 1))) := by
    obtain ⟨v, rfl⟩ : ∃ v, w = v + 1 := ⟨w - 1, by omega⟩
    show L2.atI ((List.range (v + 1)).map _) (-1) = _
    rw [at_last]
    rw [show v + 1 - v = 1 by omega, show v + 1 - 1 = v by omega]
  simp (config := {maxSteps := 3000000}) (disch := first | assumption | with_unfolding_all exact id rfl | with_unfolding_all exact Nat.le_of_ble_eq_true rfl | omega) only [r_add, r_sub, r_mulL, r_mulR, r_mod, r_fdiv, r_divmod, r_pint, r_pintb, r_abs, r_min2, r_max2, r_lent, r_lenl, r_lens, r_lenr, r_tupl, r_tupt, r_negi, r_trub, r_trui, r_lt, r_le, r_gt, r_ge, r_isb, r_isnb, r_idxt, r_idxl, r_idxs, r_idxr, r_atT, r_at0, r_at1, r_at2, r_ix30, r_ix31, r_ix32, r_mkF, r_mkT, r_itt, r_itl, r_its, r_itr, r_stt, r_stl, r_sts, r_isii, r_isib, r_isit, r_isil, r_isis, r_k1, r_k2, r_k3, r_k4, r_k5, r_k6, r_k7, r_k8, r_k9, r_k10, r_k11, r_k12, r_k13, r_k14, r_k15, r_wi0, r_wi1, r_bin0, r_line, r_frzb, r_frzi, r_frzn, r_frzs, r_ret, r_no, ↓r_bnd, r_newO, r_getO, r_getO_set, r_setO, r_setO_set, r_ite, r_nox, ↓w_es0, ↓w_es1, ↓w_cO0, ↓w_cO1, ↓w_ifs0, ↓w_ifs1, ↓w_var, ↓w_con, ↓w_glob, ↓w_bin, ↓w_neg, ↓w_not, ↓w_and, ↓w_or, ↓w_ite, ↓w_cmp, ↓w_cmp2, ↓w_cmp3, ↓w_eqo, ↓w_tup, ↓w_lst, ↓w_idx, ↓w_slc, ↓w_fld, ↓w_call, ↓w_make, ↓w_meth, ↓w_prim, ↓w_isi, ↓w_bm, ↓w_lc, ↓w_rng, ↓w_enum, ↓w_zip, ↓w_seq, ↓w_gName, ↓w_gs0, ↓w_gs1, ↓w_gTup, ↓w_gTupL, ↓w_gSub, ↓w_gFld, ↓w_ss0, ↓w_ss1, ↓w_expr, ↓w_asg, ↓w_aug, ↓w_sret, ↓w_sif, ↓w_rai, ↓w_pass, ↓w_for, ↓w_runS, r_lineN, r_lentri, r_lenrow, r_tri, r_tri1, r_tri0, r_row, r_row1, r_row0, r_isitri, r_isirow, r_sort3, r_mid, r_n1, r_n0, ↓w_rngN, r_tupr, r_frztri, r_frzrow, ↓w_app0, r_cuttri, r_ittri, r_itrow, r_sttri, r_strow, r_atlast, r_put0, r_put10, r_fld0, r_fld1, r_isgrd, r_clsgrd, r_cutrow, r_eqi, r_nei, r_eqb, ↓w_lc2, ↓r_rng, ↓w_bme, ↓w_app, ↓w_ext, r_sortp, r_zip1, r_zip0, r_sort3, r_eql3, r_allT, r_alll, r_addl, r_addt, bd_qlaw, bd_l_right, bd_l_middles_right, bd_l_dip, bd_qmiddle, bi_qmiddle_0, bi_qmiddle_1, bd_qcheck_number, bd_qis_whole, bd_qmiddle_of, bd_l_is_whole, bd_l_rows, bd_l_size, bd_qGround_init, bd_qcheck_rows, bd_qis_row, bd_l_floors, bd_l_over, bd_qfloors, bi_qfloors_0, bd_qcheck_ground, bd_qfloors_of, bd_qnext_rows, bd_qtop, bi_qtop_0, bd_qtop_of, bd_qGround_put, bd_qcheck_spot, bd_qis_spot_of, bd_qis_within, bd_l_jar, bd_l_cell, bd_qGround_eq, gl_0, ↓bnd_ret, ↓bnd_no, ofO_some, Option.bind_some, id, List.getElem?_cons_zero, List.getElem?_cons_succ, List.set_cons_zero, List.set_cons_succ, List.length_cons, List.length_nil, if_true, if_false, Bool.false_eq_true, List.map_cons, List.map_nil, List.cons_append, List.nil_append, List.append_nil, List.replicate_succ, List.replicate_zero, ↓reduceIte, Bool.not_true, Bool.not_false, decide_true, decide_false, Nat.reduceAdd, Nat.reduceLT, Nat.reduceLeDiff, List.length_set, true_and, and_true, Int.cast_ofNat_Int, eq_self, s_qtop_of, f_floors_of, e]
theorem f_is_whole (hn : 2 ≤ n) (x : Int) : callS sh n .qis_whole [.int x] = ret (.bl true) := by
  obtain ⟨k, rfl⟩ : ∃ m, n = m + 2 := ⟨n - 2, by omega⟩
  refine call_pure is_qis_whole rfl ?_
  simp (config := {maxSteps := 3000000}) (disch := first | assumption | with_unfolding_all exact id rfl | with_unfolding_all exact Nat.le_of_ble_eq_true rfl | omega) only [r_add, r_sub, r_mulL, r_mulR, r_mod, r_fdiv, r_divmod, r_pint, r_pintb, r_abs, r_min2, r_max2, r_lent, r_lenl, r_lens, r_lenr, r_tupl, r_tupt, r_negi, r_trub, r_trui, r_lt, r_le, r_gt, r_ge, r_isb, r_isnb, r_idxt, r_idxl, r_idxs, r_idxr, r_atT, r_at0, r_at1, r_at2, r_ix30, r_ix31, r_ix32, r_mkF, r_mkT, r_itt, r_itl, r_its, r_itr, r_stt, r_stl, r_sts, r_isii, r_isib, r_isit, r_isil, r_isis, r_k1, r_k2, r_k3, r_k4, r_k5, r_k6, r_k7, r_k8, r_k9, r_k10, r_k11, r_k12, r_k13, r_k14, r_k15, r_wi0, r_wi1, r_bin0, r_line, r_frzb, r_frzi, r_frzn, r_frzs, r_ret, r_no, ↓r_bnd, r_newO, r_getO, r_getO_set, r_setO, r_setO_set, r_ite, r_nox, ↓w_es0, ↓w_es1, ↓w_cO0, ↓w_cO1, ↓w_ifs0, ↓w_ifs1, ↓w_var, ↓w_con, ↓w_glob, ↓w_bin, ↓w_neg, ↓w_not, ↓w_and, ↓w_or, ↓w_ite, ↓w_cmp, ↓w_cmp2, ↓w_cmp3, ↓w_eqo, ↓w_tup, ↓w_lst, ↓w_idx, ↓w_slc, ↓w_fld, ↓w_call, ↓w_make, ↓w_meth, ↓w_prim, ↓w_isi, ↓w_bm, ↓w_lc, ↓w_rng, ↓w_enum, ↓w_zip, ↓w_seq, ↓w_gName, ↓w_gs0, ↓w_gs1, ↓w_gTup, ↓w_gTupL, ↓w_gSub, ↓w_gFld, ↓w_ss0, ↓w_ss1, ↓w_expr, ↓w_asg, ↓w_aug, ↓w_sret, ↓w_sif, ↓w_rai, ↓w_pass, ↓w_for, ↓w_runS, r_lineN, r_lentri, r_lenrow, r_tri, r_tri1, r_tri0, r_row, r_row1, r_row0, r_isitri, r_isirow, r_sort3, r_mid, r_n1, r_n0, ↓w_rngN, r_tupr, r_frztri, r_frzrow, ↓w_app0, r_cuttri, r_ittri, r_itrow, r_sttri, r_strow, r_atlast, r_put0, r_put10, r_fld0, r_fld1, r_isgrd, r_clsgrd, r_cutrow, r_eqi, r_nei, r_eqb, ↓w_lc2, ↓r_rng, ↓w_bme, ↓w_app, ↓w_ext, r_sortp, r_zip1, r_zip0, r_sort3, r_eql3, r_allT, r_alll, r_addl, r_addt, bd_qlaw, bd_l_right, bd_l_middles_right, bd_l_dip, bd_qmiddle, bi_qmiddle_0, bi_qmiddle_1, bd_qcheck_number, bd_qis_whole, bd_qmiddle_of, bd_l_is_whole, bd_l_rows, bd_l_size, bd_qGround_init, bd_qcheck_rows, bd_qis_row, bd_l_floors, bd_l_over, bd_qfloors, bi_qfloors_0, bd_qcheck_ground, bd_qfloors_of, bd_qnext_rows, bd_qtop, bi_qtop_0, bd_qtop_of, bd_qGround_put, bd_qcheck_spot, bd_qis_spot_of, bd_qis_within, bd_l_jar, bd_l_cell, bd_qGround_eq, gl_0, ↓bnd_ret, ↓bnd_no, ofO_some, Option.bind_some, id, List.getElem?_cons_zero, List.getElem?_cons_succ, List.set_cons_zero, List.set_cons_succ, List.length_cons, List.length_nil, if_true, if_false, Bool.false_eq_true, List.map_cons, List.map_nil, List.cons_append, List.nil_append, List.append_nil, List.replicate_succ, List.replicate_zero, ↓reduceIte, Bool.not_true, Bool.not_false, decide_true, decide_false, Nat.reduceAdd, Nat.reduceLT, Nat.reduceLeDiff, List.length_set, true_and, and_true, Int.cast_ofNat_Int, eq_self, s_qis_whole]
theorem f_within (hn : 3 ≤ n) (x lo hi : Int) : callS sh n .qis_within [.int x, .int lo, .int hi] = ret (.bl (decide (lo ≤ x ∧ x ≤ hi))) := by
  obtain ⟨k, rfl⟩ : ∃ m, n = m + 2 := ⟨n - 2, by omega⟩
  refine call_pure is_qis_within rfl ?_
  by_cases g : lo ≤ x <;>
  · simp (config := {maxSteps := 3000000}) (disch := first | assumption | with_unfolding_all exact id rfl | with_unfolding_all exact Nat.le_of_ble_eq_true rfl | omega) only [r_add, r_sub, r_mulL, r_mulR, r_mod, r_fdiv, r_divmod, r_pint, r_pintb, r_abs, r_min2, r_max2, r_lent, r_lenl, r_lens, r_lenr, r_tupl, r_tupt, r_negi, r_trub, r_trui, r_lt, r_le, r_gt, r_ge, r_isb, r_isnb, r_idxt, r_idxl, r_idxs, r_idxr, r_atT, r_at0, r_at1, r_at2, r_ix30, r_ix31, r_ix32, r_mkF, r_mkT, r_itt, r_itl, r_its, r_itr, r_stt, r_stl, r_sts, r_isii, r_isib, r_isit, r_isil, r_isis, r_k1, r_k2, r_k3, r_k4, r_k5, r_k6, r_k7, r_k8, r_k9, r_k10, r_k11, r_k12, r_k13, r_k14, r_k15, r_wi0, r_wi1, r_bin0, r_line, r_frzb, r_frzi, r_frzn, r_frzs, r_ret, r_no, ↓r_bnd, r_newO, r_getO, r_getO_set, r_setO, r_setO_set, r_ite, r_nox, ↓w_es0, ↓w_es1, ↓w_cO0, ↓w_cO1, ↓w_ifs0, ↓w_ifs1, ↓w_var, ↓w_con, ↓w_glob, ↓w_bin, ↓w_neg, ↓w_not, ↓w_and, ↓w_or, ↓w_ite, ↓w_cmp, ↓w_cmp2, ↓w_cmp3, ↓w_eqo, ↓w_tup, ↓w_lst, ↓w_idx, ↓w_slc, ↓w_fld, ↓w_call, ↓w_make, ↓w_meth, ↓w_prim, ↓w_isi, ↓w_bm, ↓w_lc, ↓w_rng, ↓w_enum, ↓w_zip, ↓w_seq, ↓w_gName, ↓w_gs0, ↓w_gs1, ↓w_gTup, ↓w_gTupL, ↓w_gSub, ↓w_gFld, ↓w_ss0, ↓w_ss1, ↓w_expr, ↓w_asg, ↓w_aug, ↓w_sret, ↓w_sif, ↓w_rai, ↓w_pass, ↓w_for, ↓w_runS, r_lineN, r_lentri, r_lenrow, r_tri, r_tri1, r_tri0, r_row, r_row1, r_row0, r_isitri, r_isirow, r_sort3, r_mid, r_n1, r_n0, ↓w_rngN, r_tupr, r_frztri, r_frzrow, ↓w_app0, r_cuttri, r_ittri, r_itrow, r_sttri, r_strow, r_atlast, r_put0, r_put10, r_fld0, r_fld1, r_isgrd, r_clsgrd, r_cutrow, r_eqi, r_nei, r_eqb, ↓w_lc2, ↓r_rng, ↓w_bme, ↓w_app, ↓w_ext, r_sortp, r_zip1, r_zip0, r_sort3, r_eql3, r_allT, r_alll, r_addl, r_addt, bd_qlaw, bd_l_right, bd_l_middles_right, bd_l_dip, bd_qmiddle, bi_qmiddle_0, bi_qmiddle_1, bd_qcheck_number, bd_qis_whole, bd_qmiddle_of, bd_l_is_whole, bd_l_rows, bd_l_size, bd_qGround_init, bd_qcheck_rows, bd_qis_row, bd_l_floors, bd_l_over, bd_qfloors, bi_qfloors_0, bd_qcheck_ground, bd_qfloors_of, bd_qnext_rows, bd_qtop, bi_qtop_0, bd_qtop_of, bd_qGround_put, bd_qcheck_spot, bd_qis_spot_of, bd_qis_within, bd_l_jar, bd_l_cell, bd_qGround_eq, gl_0, ↓bnd_ret, ↓bnd_no, ofO_some, Option.bind_some, id, List.getElem?_cons_zero, List.getElem?_cons_succ, List.set_cons_zero, List.set_cons_succ, List.length_cons, List.length_nil, if_true, if_false, Bool.false_eq_true, List.map_cons, List.map_nil, List.cons_append, List.nil_append, List.append_nil, List.replicate_succ, List.replicate_zero, ↓reduceIte, Bool.not_true, Bool.not_false, decide_true, decide_false, Nat.reduceAdd, Nat.reduceLT, Nat.reduceLeDiff, List.length_set, true_and, and_true, Int.cast_ofNat_Int, eq_self, s_qis_within, f_is_whole, g]
    try simp [g]
theorem f_is_row (hn : 3 ≤ n) (g : Nat → Int) {m : Nat} {j : Int} (ej : j = m) (hm : m ≤ 100) : callS sh n .qis_row [rowT g m, .int j] = ret (.bl true) := by
  subst ej
  obtain ⟨k, rfl⟩ : ∃ m, n = m + 2 := ⟨n - 2, by omega⟩
  refine call_pure is_qis_row (Pln.args (Pln.consA (Pln.row _ _) (Pln.consA (Pln.int _) Pln.nilA))) ?_
  have l1 := line1000
  simp (config := {maxSteps := 3000000}) (disch := first | assumption | with_unfolding_all exact id rfl | with_unfolding_all exact Nat.le_of_ble_eq_true rfl | omega) only [r_add, r_sub, r_mulL, r_mulR, r_mod, r_fdiv, r_divmod, r_pint, r_pintb, r_abs, r_min2, r_max2, r_lent, r_lenl, r_lens, r_lenr, r_tupl, r_tupt, r_negi, r_trub, r_trui, r_lt, r_le, r_gt, r_ge, r_isb, r_isnb, r_idxt, r_idxl, r_idxs, r_idxr, r_atT, r_at0, r_at1, r_at2, r_ix30, r_ix31, r_ix32, r_mkF, r_mkT, r_itt, r_itl, r_its, r_itr, r_stt, r_stl, r_sts, r_isii, r_isib, r_isit, r_isil, r_isis, r_k1, r_k2, r_k3, r_k4, r_k5, r_k6, r_k7, r_k8, r_k9, r_k10, r_k11, r_k12, r_k13, r_k14, r_k15, r_wi0, r_wi1, r_bin0, r_line, r_frzb, r_frzi, r_frzn, r_frzs, r_ret, r_no, ↓r_bnd, r_newO, r_getO, r_getO_set, r_setO, r_setO_set, r_ite, r_nox, ↓w_es0, ↓w_es1, ↓w_cO0, ↓w_cO1, ↓w_ifs0, ↓w_ifs1, ↓w_var, ↓w_con, ↓w_glob, ↓w_bin, ↓w_neg, ↓w_not, ↓w_and, ↓w_or, ↓w_ite, ↓w_cmp, ↓w_cmp2, ↓w_cmp3, ↓w_eqo, ↓w_tup, ↓w_lst, ↓w_idx, ↓w_slc, ↓w_fld, ↓w_call, ↓w_make, ↓w_meth, ↓w_prim, ↓w_isi, ↓w_bm, ↓w_lc, ↓w_rng, ↓w_enum, ↓w_zip, ↓w_seq, ↓w_gName, ↓w_gs0, ↓w_gs1, ↓w_gTup, ↓w_gTupL, ↓w_gSub, ↓w_gFld, ↓w_ss0, ↓w_ss1, ↓w_expr, ↓w_asg, ↓w_aug, ↓w_sret, ↓w_sif, ↓w_rai, ↓w_pass, ↓w_for, ↓w_runS, r_lineN, r_lentri, r_lenrow, r_tri, r_tri1, r_tri0, r_row, r_row1, r_row0, r_isitri, r_isirow, r_sort3, r_mid, r_n1, r_n0, ↓w_rngN, r_tupr, r_frztri, r_frzrow, ↓w_app0, r_cuttri, r_ittri, r_itrow, r_sttri, r_strow, r_atlast, r_put0, r_put10, r_fld0, r_fld1, r_isgrd, r_clsgrd, r_cutrow, r_eqi, r_nei, r_eqb, ↓w_lc2, ↓r_rng, ↓w_bme, ↓w_app, ↓w_ext, r_sortp, r_zip1, r_zip0, r_sort3, r_eql3, r_allT, r_alll, r_addl, r_addt, bd_qlaw, bd_l_right, bd_l_middles_right, bd_l_dip, bd_qmiddle, bi_qmiddle_0, bi_qmiddle_1, bd_qcheck_number, bd_qis_whole, bd_qmiddle_of, bd_l_is_whole, bd_l_rows, bd_l_size, bd_qGround_init, bd_qcheck_rows, bd_qis_row, bd_l_floors, bd_l_over, bd_qfloors, bi_qfloors_0, bd_qcheck_ground, bd_qfloors_of, bd_qnext_rows, bd_qtop, bi_qtop_0, bd_qtop_of, bd_qGround_put, bd_qcheck_spot, bd_qis_spot_of, bd_qis_within, bd_l_jar, bd_l_cell, bd_qGround_eq, gl_0, ↓bnd_ret, ↓bnd_no, ofO_some, Option.bind_some, id, List.getElem?_cons_zero, List.getElem?_cons_succ, List.set_cons_zero, List.set_cons_succ, List.length_cons, List.length_nil, if_true, if_false, Bool.false_eq_true, List.map_cons, List.map_nil, List.cons_append, List.nil_append, List.append_nil, List.replicate_succ, List.replicate_zero, ↓reduceIte, Bool.not_true, Bool.not_false, decide_true, decide_false, Nat.reduceAdd, Nat.reduceLT, Nat.reduceLeDiff, List.length_set, true_and, and_true, Int.cast_ofNat_Int, eq_self, s_qis_row]
  refine W_compU (fun a => .int (g a)) (fun _ => .bl true) (fun a ha => ?_) ?_
  · refine M_ret fun h => ?_
    simp (config := {maxSteps := 3000000}) (disch := first | assumption | with_unfolding_all exact id rfl | with_unfolding_all exact Nat.le_of_ble_eq_true rfl | omega) only [r_add, r_sub, r_mulL, r_mulR, r_mod, r_fdiv, r_divmod, r_pint, r_pintb, r_abs, r_min2, r_max2, r_lent, r_lenl, r_lens, r_lenr, r_tupl, r_tupt, r_negi, r_trub, r_trui, r_lt, r_le, r_gt, r_ge, r_isb, r_isnb, r_idxt, r_idxl, r_idxs, r_idxr, r_atT, r_at0, r_at1, r_at2, r_ix30, r_ix31, r_ix32, r_mkF, r_mkT, r_itt, r_itl, r_its, r_itr, r_stt, r_stl, r_sts, r_isii, r_isib, r_isit, r_isil, r_isis, r_k1, r_k2, r_k3, r_k4, r_k5, r_k6, r_k7, r_k8, r_k9, r_k10, r_k11, r_k12, r_k13, r_k14, r_k15, r_wi0, r_wi1, r_bin0, r_line, r_frzb, r_frzi, r_frzn, r_frzs, r_ret, r_no, ↓r_bnd, r_newO, r_getO, r_getO_set, r_setO, r_setO_set, r_ite, r_nox, ↓w_es0, ↓w_es1, ↓w_cO0, ↓w_cO1, ↓w_ifs0, ↓w_ifs1, ↓w_var, ↓w_con, ↓w_glob, ↓w_bin, ↓w_neg, ↓w_not, ↓w_and, ↓w_or, ↓w_ite, ↓w_cmp, ↓w_cmp2, ↓w_cmp3, ↓w_eqo, ↓w_tup, ↓w_lst, ↓w_idx, ↓w_slc, ↓w_fld, ↓w_call, ↓w_make, ↓w_meth, ↓w_prim, ↓w_isi, ↓w_bm, ↓w_lc, ↓w_rng, ↓w_enum, ↓w_zip, ↓w_seq, ↓w_gName, ↓w_gs0, ↓w_gs1, ↓w_gTup, ↓w_gTupL, ↓w_gSub, ↓w_gFld, ↓w_ss0, ↓w_ss1, ↓w_expr, ↓w_asg, ↓w_aug, ↓w_sret, ↓w_sif, ↓w_rai, ↓w_pass, ↓w_for, ↓w_runS, r_lineN, r_lentri, r_lenrow, r_tri, r_tri1, r_tri0, r_row, r_row1, r_row0, r_isitri, r_isirow, r_sort3, r_mid, r_n1, r_n0, ↓w_rngN, r_tupr, r_frztri, r_frzrow, ↓w_app0, r_cuttri, r_ittri, r_itrow, r_sttri, r_strow, r_atlast, r_put0, r_put10, r_fld0, r_fld1, r_isgrd, r_clsgrd, r_cutrow, r_eqi, r_nei, r_eqb, ↓w_lc2, ↓r_rng, ↓w_bme, ↓w_app, ↓w_ext, r_sortp, r_zip1, r_zip0, r_sort3, r_eql3, r_allT, r_alll, r_addl, r_addt, bd_qlaw, bd_l_right, bd_l_middles_right, bd_l_dip, bd_qmiddle, bi_qmiddle_0, bi_qmiddle_1, bd_qcheck_number, bd_qis_whole, bd_qmiddle_of, bd_l_is_whole, bd_l_rows, bd_l_size, bd_qGround_init, bd_qcheck_rows, bd_qis_row, bd_l_floors, bd_l_over, bd_qfloors, bi_qfloors_0, bd_qcheck_ground, bd_qfloors_of, bd_qnext_rows, bd_qtop, bi_qtop_0, bd_qtop_of, bd_qGround_put, bd_qcheck_spot, bd_qis_spot_of, bd_qis_within, bd_l_jar, bd_l_cell, bd_qGround_eq, gl_0, ↓bnd_ret, ↓bnd_no, ofO_some, Option.bind_some, id, List.getElem?_cons_zero, List.getElem?_cons_succ, List.set_cons_zero, List.set_cons_succ, List.length_cons, List.length_nil, if_true, if_false, Bool.false_eq_true, List.map_cons, List.map_nil, List.cons_append, List.nil_append, List.append_nil, List.replicate_succ, List.replicate_zero, ↓reduceIte, Bool.not_true, Bool.not_false, decide_true, decide_false, Nat.reduceAdd, Nat.reduceLT, Nat.reduceLeDiff, List.length_set, true_and, and_true, Int.cast_ofNat_Int, eq_self, f_is_whole]
  · rw [range_const]
    refine ⟨by rw [List.length_replicate]; omega, ?_⟩
    simp (config := {maxSteps := 3000000}) (disch := first | assumption | with_unfolding_all exact id rfl | with_unfolding_all exact Nat.le_of_ble_eq_true rfl | omega) only [r_add, r_sub, r_mulL, r_mulR, r_mod, r_fdiv, r_divmod, r_pint, r_pintb, r_abs, r_min2, r_max2, r_lent, r_lenl, r_lens, r_lenr, r_tupl, r_tupt, r_negi, r_trub, r_trui, r_lt, r_le, r_gt, r_ge, r_isb, r_isnb, r_idxt, r_idxl, r_idxs, r_idxr, r_atT, r_at0, r_at1, r_at2, r_ix30, r_ix31, r_ix32, r_mkF, r_mkT, r_itt, r_itl, r_its, r_itr, r_stt, r_stl, r_sts, r_isii, r_isib, r_isit, r_isil, r_isis, r_k1, r_k2, r_k3, r_k4, r_k5, r_k6, r_k7, r_k8, r_k9, r_k10, r_k11, r_k12, r_k13, r_k14, r_k15, r_wi0, r_wi1, r_bin0, r_line, r_frzb, r_frzi, r_frzn, r_frzs, r_ret, r_no, ↓r_bnd, r_newO, r_getO, r_getO_set, r_setO, r_setO_set, r_ite, r_nox, ↓w_es0, ↓w_es1, ↓w_cO0, ↓w_cO1, ↓w_ifs0, ↓w_ifs1, ↓w_var, ↓w_con, ↓w_glob, ↓w_bin, ↓w_neg, ↓w_not, ↓w_and, ↓w_or, ↓w_ite, ↓w_cmp, ↓w_cmp2, ↓w_cmp3, ↓w_eqo, ↓w_tup, ↓w_lst, ↓w_idx, ↓w_slc, ↓w_fld, ↓w_call, ↓w_make, ↓w_meth, ↓w_prim, ↓w_isi, ↓w_bm, ↓w_lc, ↓w_rng, ↓w_enum, ↓w_zip, ↓w_seq, ↓w_gName, ↓w_gs0, ↓w_gs1, ↓w_gTup, ↓w_gTupL, ↓w_gSub, ↓w_gFld, ↓w_ss0, ↓w_ss1, ↓w_expr, ↓w_asg, ↓w_aug, ↓w_sret, ↓w_sif, ↓w_rai, ↓w_pass, ↓w_for, ↓w_runS, r_lineN, r_lentri, r_lenrow, r_tri, r_tri1, r_tri0, r_row, r_row1, r_row0, r_isitri, r_isirow, r_sort3, r_mid, r_n1, r_n0, ↓w_rngN, r_tupr, r_frztri, r_frzrow, ↓w_app0, r_cuttri, r_ittri, r_itrow, r_sttri, r_strow, r_atlast, r_put0, r_put10, r_fld0, r_fld1, r_isgrd, r_clsgrd, r_cutrow, r_eqi, r_nei, r_eqb, ↓w_lc2, ↓r_rng, ↓w_bme, ↓w_app, ↓w_ext, r_sortp, r_zip1, r_zip0, r_sort3, r_eql3, r_allT, r_alll, r_addl, r_addt, bd_qlaw, bd_l_right, bd_l_middles_right, bd_l_dip, bd_qmiddle, bi_qmiddle_0, bi_qmiddle_1, bd_qcheck_number, bd_qis_whole, bd_qmiddle_of, bd_l_is_whole, bd_l_rows, bd_l_size, bd_qGround_init, bd_qcheck_rows, bd_qis_row, bd_l_floors, bd_l_over, bd_qfloors, bi_qfloors_0, bd_qcheck_ground, bd_qfloors_of, bd_qnext_rows, bd_qtop, bi_qtop_0, bd_qtop_of, bd_qGround_put, bd_qcheck_spot, bd_qis_spot_of, bd_qis_within, bd_l_jar, bd_l_cell, bd_qGround_eq, gl_0, ↓bnd_ret, ↓bnd_no, ofO_some, Option.bind_some, id, List.getElem?_cons_zero, List.getElem?_cons_succ, List.set_cons_zero, List.set_cons_succ, List.length_cons, List.length_nil, if_true, if_false, Bool.false_eq_true, List.map_cons, List.map_nil, List.cons_append, List.nil_append, List.append_nil, List.replicate_succ, List.replicate_zero, ↓reduceIte, Bool.not_true, Bool.not_false, decide_true, decide_false, Nat.reduceAdd, Nat.reduceLT, Nat.reduceLeDiff, List.length_set, true_and, and_true, Int.cast_ofNat_Int, eq_self]
theorem f_check_rows (hn : 4 ≤ n) {w : Nat} (h1 : 1 ≤ w) (hw : w ≤ 12) (g : Nat → Nat → Int) : callS sh n .qcheck_rows [tri w g] = ret .non := by
  obtain ⟨k, rfl⟩ : ∃ m, n = m + 2 := ⟨n - 2, by omega⟩
  refine call_pure is_qcheck_rows (frz1 _ _) ?_
  have l1 := line1000
  have g1 : (1 : Int) ≤ w := by omega
  have g2 : (w : Int) ≤ 12 := by omega
  simp (config := {maxSteps := 3000000}) (disch := first | assumption | with_unfolding_all exact id rfl | with_unfolding_all exact Nat.le_of_ble_eq_true rfl | omega) only [r_add, r_sub, r_mulL, r_mulR, r_mod, r_fdiv, r_divmod, r_pint, r_pintb, r_abs, r_min2, r_max2, r_lent, r_lenl, r_lens, r_lenr, r_tupl, r_tupt, r_negi, r_trub, r_trui, r_lt, r_le, r_gt, r_ge, r_isb, r_isnb, r_idxt, r_idxl, r_idxs, r_idxr, r_atT, r_at0, r_at1, r_at2, r_ix30, r_ix31, r_ix32, r_mkF, r_mkT, r_itt, r_itl, r_its, r_itr, r_stt, r_stl, r_sts, r_isii, r_isib, r_isit, r_isil, r_isis, r_k1, r_k2, r_k3, r_k4, r_k5, r_k6, r_k7, r_k8, r_k9, r_k10, r_k11, r_k12, r_k13, r_k14, r_k15, r_wi0, r_wi1, r_bin0, r_line, r_frzb, r_frzi, r_frzn, r_frzs, r_ret, r_no, ↓r_bnd, r_newO, r_getO, r_getO_set, r_setO, r_setO_set, r_ite, r_nox, ↓w_es0, ↓w_es1, ↓w_cO0, ↓w_cO1, ↓w_ifs0, ↓w_ifs1, ↓w_var, ↓w_con, ↓w_glob, ↓w_bin, ↓w_neg, ↓w_not, ↓w_and, ↓w_or, ↓w_ite, ↓w_cmp, ↓w_cmp2, ↓w_cmp3, ↓w_eqo, ↓w_tup, ↓w_lst, ↓w_idx, ↓w_slc, ↓w_fld, ↓w_call, ↓w_make, ↓w_meth, ↓w_prim, ↓w_isi, ↓w_bm, ↓w_lc, ↓w_rng, ↓w_enum, ↓w_zip, ↓w_seq, ↓w_gName, ↓w_gs0, ↓w_gs1, ↓w_gTup, ↓w_gTupL, ↓w_gSub, ↓w_gFld, ↓w_ss0, ↓w_ss1, ↓w_expr, ↓w_asg, ↓w_aug, ↓w_sret, ↓w_sif, ↓w_rai, ↓w_pass, ↓w_for, ↓w_runS, r_lineN, r_lentri, r_lenrow, r_tri, r_tri1, r_tri0, r_row, r_row1, r_row0, r_isitri, r_isirow, r_sort3, r_mid, r_n1, r_n0, ↓w_rngN, r_tupr, r_frztri, r_frzrow, ↓w_app0, r_cuttri, r_ittri, r_itrow, r_sttri, r_strow, r_atlast, r_put0, r_put10, r_fld0, r_fld1, r_isgrd, r_clsgrd, r_cutrow, r_eqi, r_nei, r_eqb, ↓w_lc2, ↓r_rng, ↓w_bme, ↓w_app, ↓w_ext, r_sortp, r_zip1, r_zip0, r_sort3, r_eql3, r_allT, r_alll, r_addl, r_addt, bd_qlaw, bd_l_right, bd_l_middles_right, bd_l_dip, bd_qmiddle, bi_qmiddle_0, bi_qmiddle_1, bd_qcheck_number, bd_qis_whole, bd_qmiddle_of, bd_l_is_whole, bd_l_rows, bd_l_size, bd_qGround_init, bd_qcheck_rows, bd_qis_row, bd_l_floors, bd_l_over, bd_qfloors, bi_qfloors_0, bd_qcheck_ground, bd_qfloors_of, bd_qnext_rows, bd_qtop, bi_qtop_0, bd_qtop_of, bd_qGround_put, bd_qcheck_spot, bd_qis_spot_of, bd_qis_within, bd_l_jar, bd_l_cell, bd_qGround_eq, gl_0, ↓bnd_ret, ↓bnd_no, ofO_some, Option.bind_some, id, List.getElem?_cons_zero, List.getElem?_cons_succ, List.set_cons_zero, List.set_cons_succ, List.length_cons, List.length_nil, if_true, if_false, Bool.false_eq_true, List.map_cons, List.map_nil, List.cons_append, List.nil_append, List.append_nil, List.replicate_succ, List.replicate_zero, ↓reduceIte, Bool.not_true, Bool.not_false, decide_true, decide_false, Nat.reduceAdd, Nat.reduceLT, Nat.reduceLeDiff, List.length_set, true_and, and_true, Int.cast_ofNat_Int, eq_self, s_qcheck_rows, g1, g2]
  refine W_forE (fun r => rowT (g r) (r + 1)) (fun k σ h => h = [] ∧ ∃ x2 x3 : Option T, σ = [some (tri w g), x2, x3]) ?_ ⟨rfl, _, _, rfl⟩ ?_
  · rintro r hr σ h ⟨rfl, x2, x3, rfl⟩
    have e : (r : Int) + 1 = ((r + 1 : Nat) : Int) := by omega
    simp (config := {maxSteps := 3000000}) (disch := first | assumption | with_unfolding_all exact id rfl | with_unfolding_all exact Nat.le_of_ble_eq_true rfl | omega) only [r_add, r_sub, r_mulL, r_mulR, r_mod, r_fdiv, r_divmod, r_pint, r_pintb, r_abs, r_min2, r_max2, r_lent, r_lenl, r_lens, r_lenr, r_tupl, r_tupt, r_negi, r_trub, r_trui, r_lt, r_le, r_gt, r_ge, r_isb, r_isnb, r_idxt, r_idxl, r_idxs, r_idxr, r_atT, r_at0, r_at1, r_at2, r_ix30, r_ix31, r_ix32, r_mkF, r_mkT, r_itt, r_itl, r_its, r_itr, r_stt, r_stl, r_sts, r_isii, r_isib, r_isit, r_isil, r_isis, r_k1, r_k2, r_k3, r_k4, r_k5, r_k6, r_k7, r_k8, r_k9, r_k10, r_k11, r_k12, r_k13, r_k14, r_k15, r_wi0, r_wi1, r_bin0, r_line, r_frzb, r_frzi, r_frzn, r_frzs, r_ret, r_no, ↓r_bnd, r_newO, r_getO, r_getO_set, r_setO, r_setO_set, r_ite, r_nox, ↓w_es0, ↓w_es1, ↓w_cO0, ↓w_cO1, ↓w_ifs0, ↓w_ifs1, ↓w_var, ↓w_con, ↓w_glob, ↓w_bin, ↓w_neg, ↓w_not, ↓w_and, ↓w_or, ↓w_ite, ↓w_cmp, ↓w_cmp2, ↓w_cmp3, ↓w_eqo, ↓w_tup, ↓w_lst, ↓w_idx, ↓w_slc, ↓w_fld, ↓w_call, ↓w_make, ↓w_meth, ↓w_prim, ↓w_isi, ↓w_bm, ↓w_lc, ↓w_rng, ↓w_enum, ↓w_zip, ↓w_seq, ↓w_gName, ↓w_gs0, ↓w_gs1, ↓w_gTup, ↓w_gTupL, ↓w_gSub, ↓w_gFld, ↓w_ss0, ↓w_ss1, ↓w_expr, ↓w_asg, ↓w_aug, ↓w_sret, ↓w_sif, ↓w_rai, ↓w_pass, ↓w_for, ↓w_runS, r_lineN, r_lentri, r_lenrow, r_tri, r_tri1, r_tri0, r_row, r_row1, r_row0, r_isitri, r_isirow, r_sort3, r_mid, r_n1, r_n0, ↓w_rngN, r_tupr, r_frztri, r_frzrow, ↓w_app0, r_cuttri, r_ittri, r_itrow, r_sttri, r_strow, r_atlast, r_put0, r_put10, r_fld0, r_fld1, r_isgrd, r_clsgrd, r_cutrow, r_eqi, r_nei, r_eqb, ↓w_lc2, ↓r_rng, ↓w_bme, ↓w_app, ↓w_ext, r_sortp, r_zip1, r_zip0, r_sort3, r_eql3, r_allT, r_alll, r_addl, r_addt, bd_qlaw, bd_l_right, bd_l_middles_right, bd_l_dip, bd_qmiddle, bi_qmiddle_0, bi_qmiddle_1, bd_qcheck_number, bd_qis_whole, bd_qmiddle_of, bd_l_is_whole, bd_l_rows, bd_l_size, bd_qGround_init, bd_qcheck_rows, bd_qis_row, bd_l_floors, bd_l_over, bd_qfloors, bi_qfloors_0, bd_qcheck_ground, bd_qfloors_of, bd_qnext_rows, bd_qtop, bi_qtop_0, bd_qtop_of, bd_qGround_put, bd_qcheck_spot, bd_qis_spot_of, bd_qis_within, bd_l_jar, bd_l_cell, bd_qGround_eq, gl_0, ↓bnd_ret, ↓bnd_no, ofO_some, Option.bind_some, id, List.getElem?_cons_zero, List.getElem?_cons_succ, List.set_cons_zero, List.set_cons_succ, List.length_cons, List.length_nil, if_true, if_false, Bool.false_eq_true, List.map_cons, List.map_nil, List.cons_append, List.nil_append, List.append_nil, List.replicate_succ, List.replicate_zero, ↓reduceIte, Bool.not_true, Bool.not_false, decide_true, decide_false, Nat.reduceAdd, Nat.reduceLT, Nat.reduceLeDiff, List.length_set, true_and, and_true, Int.cast_ofNat_Int, eq_self, f_is_row]
    exact ⟨_, _, rfl⟩
  · rintro σ h ⟨rfl, x2, x3, rfl⟩
    simp (config := {maxSteps := 3000000}) (disch := first | assumption | with_unfolding_all exact id rfl | with_unfolding_all exact Nat.le_of_ble_eq_true rfl | omega) only [r_add, r_sub, r_mulL, r_mulR, r_mod, r_fdiv, r_divmod, r_pint, r_pintb, r_abs, r_min2, r_max2, r_lent, r_lenl, r_lens, r_lenr, r_tupl, r_tupt, r_negi, r_trub, r_trui, r_lt, r_le, r_gt, r_ge, r_isb, r_isnb, r_idxt, r_idxl, r_idxs, r_idxr, r_atT, r_at0, r_at1, r_at2, r_ix30, r_ix31, r_ix32, r_mkF, r_mkT, r_itt, r_itl, r_its, r_itr, r_stt, r_stl, r_sts, r_isii, r_isib, r_isit, r_isil, r_isis, r_k1, r_k2, r_k3, r_k4, r_k5, r_k6, r_k7, r_k8, r_k9, r_k10, r_k11, r_k12, r_k13, r_k14, r_k15, r_wi0, r_wi1, r_bin0, r_line, r_frzb, r_frzi, r_frzn, r_frzs, r_ret, r_no, ↓r_bnd, r_newO, r_getO, r_getO_set, r_setO, r_setO_set, r_ite, r_nox, ↓w_es0, ↓w_es1, ↓w_cO0, ↓w_cO1, ↓w_ifs0, ↓w_ifs1, ↓w_var, ↓w_con, ↓w_glob, ↓w_bin, ↓w_neg, ↓w_not, ↓w_and, ↓w_or, ↓w_ite, ↓w_cmp, ↓w_cmp2, ↓w_cmp3, ↓w_eqo, ↓w_tup, ↓w_lst, ↓w_idx, ↓w_slc, ↓w_fld, ↓w_call, ↓w_make, ↓w_meth, ↓w_prim, ↓w_isi, ↓w_bm, ↓w_lc, ↓w_rng, ↓w_enum, ↓w_zip, ↓w_seq, ↓w_gName, ↓w_gs0, ↓w_gs1, ↓w_gTup, ↓w_gTupL, ↓w_gSub, ↓w_gFld, ↓w_ss0, ↓w_ss1, ↓w_expr, ↓w_asg, ↓w_aug, ↓w_sret, ↓w_sif, ↓w_rai, ↓w_pass, ↓w_for, ↓w_runS, r_lineN, r_lentri, r_lenrow, r_tri, r_tri1, r_tri0, r_row, r_row1, r_row0, r_isitri, r_isirow, r_sort3, r_mid, r_n1, r_n0, ↓w_rngN, r_tupr, r_frztri, r_frzrow, ↓w_app0, r_cuttri, r_ittri, r_itrow, r_sttri, r_strow, r_atlast, r_put0, r_put10, r_fld0, r_fld1, r_isgrd, r_clsgrd, r_cutrow, r_eqi, r_nei, r_eqb, ↓w_lc2, ↓r_rng, ↓w_bme, ↓w_app, ↓w_ext, r_sortp, r_zip1, r_zip0, r_sort3, r_eql3, r_allT, r_alll, r_addl, r_addt, bd_qlaw, bd_l_right, bd_l_middles_right, bd_l_dip, bd_qmiddle, bi_qmiddle_0, bi_qmiddle_1, bd_qcheck_number, bd_qis_whole, bd_qmiddle_of, bd_l_is_whole, bd_l_rows, bd_l_size, bd_qGround_init, bd_qcheck_rows, bd_qis_row, bd_l_floors, bd_l_over, bd_qfloors, bi_qfloors_0, bd_qcheck_ground, bd_qfloors_of, bd_qnext_rows, bd_qtop, bi_qtop_0, bd_qtop_of, bd_qGround_put, bd_qcheck_spot, bd_qis_spot_of, bd_qis_within, bd_l_jar, bd_l_cell, bd_qGround_eq, gl_0, ↓bnd_ret, ↓bnd_no, ofO_some, Option.bind_some, id, List.getElem?_cons_zero, List.getElem?_cons_succ, List.set_cons_zero, List.set_cons_succ, List.length_cons, List.length_nil, if_true, if_false, Bool.false_eq_true, List.map_cons, List.map_nil, List.cons_append, List.nil_append, List.append_nil, List.replicate_succ, List.replicate_zero, ↓reduceIte, Bool.not_true, Bool.not_false, decide_true, decide_false, Nat.reduceAdd, Nat.reduceLT, Nat.reduceLeDiff, List.length_set, true_and, and_true, Int.cast_ofNat_Int, eq_self]
theorem f_make (hn : 7 ≤ n) {w : Nat} (h1 : 1 ≤ w) (hw : w ≤ 12) (g : Nat → Nat → Int) : makeS sh n 0 2 [] [tri w g] = ret (grd w g) := by
  obtain ⟨k, rfl⟩ : ∃ m, n = m + 3 := ⟨n - 3, by omega⟩
  refine make_frozen sh (m := k + 2) (f := .qGround_init) rfl rfl (frz1 w g) ?_
  rw [r_bnd]
  show W (bindA P .qGround_init 2 [] [.ref 0, tri w g]) [O.ins 0 [] []] _
  rw [bd_qGround_init, r_ret, callS_s]
  show W (runS 2 0 (s_qGround_init (callS sh (k + 1))) [.ref 0, tri w g]) [O.ins 0 [] []] _
  simp (config := {maxSteps := 3000000}) (disch := first | assumption | with_unfolding_all exact id rfl | with_unfolding_all exact Nat.le_of_ble_eq_true rfl | omega) only [r_add, r_sub, r_mulL, r_mulR, r_mod, r_fdiv, r_divmod, r_pint, r_pintb, r_abs, r_min2, r_max2, r_lent, r_lenl, r_lens, r_lenr, r_tupl, r_tupt, r_negi, r_trub, r_trui, r_lt, r_le, r_gt, r_ge, r_isb, r_isnb, r_idxt, r_idxl, r_idxs, r_idxr, r_atT, r_at0, r_at1, r_at2, r_ix30, r_ix31, r_ix32, r_mkF, r_mkT, r_itt, r_itl, r_its, r_itr, r_stt, r_stl, r_sts, r_isii, r_isib, r_isit, r_isil, r_isis, r_k1, r_k2, r_k3, r_k4, r_k5, r_k6, r_k7, r_k8, r_k9, r_k10, r_k11, r_k12, r_k13, r_k14, r_k15, r_wi0, r_wi1, r_bin0, r_line, r_frzb, r_frzi, r_frzn, r_frzs, r_ret, r_no, ↓r_bnd, r_newO, r_getO, r_getO_set, r_setO, r_setO_set, r_ite, r_nox, ↓w_es0, ↓w_es1, ↓w_cO0, ↓w_cO1, ↓w_ifs0, ↓w_ifs1, ↓w_var, ↓w_con, ↓w_glob, ↓w_bin, ↓w_neg, ↓w_not, ↓w_and, ↓w_or, ↓w_ite, ↓w_cmp, ↓w_cmp2, ↓w_cmp3, ↓w_eqo, ↓w_tup, ↓w_lst, ↓w_idx, ↓w_slc, ↓w_fld, ↓w_call, ↓w_make, ↓w_meth, ↓w_prim, ↓w_isi, ↓w_bm, ↓w_lc, ↓w_rng, ↓w_enum, ↓w_zip, ↓w_seq, ↓w_gName, ↓w_gs0, ↓w_gs1, ↓w_gTup, ↓w_gTupL, ↓w_gSub, ↓w_gFld, ↓w_ss0, ↓w_ss1, ↓w_expr, ↓w_asg, ↓w_aug, ↓w_sret, ↓w_sif, ↓w_rai, ↓w_pass, ↓w_for, ↓w_runS, r_lineN, r_lentri, r_lenrow, r_tri, r_tri1, r_tri0, r_row, r_row1, r_row0, r_isitri, r_isirow, r_sort3, r_mid, r_n1, r_n0, ↓w_rngN, r_tupr, r_frztri, r_frzrow, ↓w_app0, r_cuttri, r_ittri, r_itrow, r_sttri, r_strow, r_atlast, r_put0, r_put10, r_fld0, r_fld1, r_isgrd, r_clsgrd, r_cutrow, r_eqi, r_nei, r_eqb, ↓w_lc2, ↓r_rng, ↓w_bme, ↓w_app, ↓w_ext, r_sortp, r_zip1, r_zip0, r_sort3, r_eql3, r_allT, r_alll, r_addl, r_addt, bd_qlaw, bd_l_right, bd_l_middles_right, bd_l_dip, bd_qmiddle, bi_qmiddle_0, bi_qmiddle_1, bd_qcheck_number, bd_qis_whole, bd_qmiddle_of, bd_l_is_whole, bd_l_rows, bd_l_size, bd_qGround_init, bd_qcheck_rows, bd_qis_row, bd_l_floors, bd_l_over, bd_qfloors, bi_qfloors_0, bd_qcheck_ground, bd_qfloors_of, bd_qnext_rows, bd_qtop, bi_qtop_0, bd_qtop_of, bd_qGround_put, bd_qcheck_spot, bd_qis_spot_of, bd_qis_within, bd_l_jar, bd_l_cell, bd_qGround_eq, gl_0, ↓bnd_ret, ↓bnd_no, ofO_some, Option.bind_some, id, List.getElem?_cons_zero, List.getElem?_cons_succ, List.set_cons_zero, List.set_cons_succ, List.length_cons, List.length_nil, if_true, if_false, Bool.false_eq_true, List.map_cons, List.map_nil, List.cons_append, List.nil_append, List.append_nil, List.replicate_succ, List.replicate_zero, ↓reduceIte, Bool.not_true, Bool.not_false, decide_true, decide_false, Nat.reduceAdd, Nat.reduceLT, Nat.reduceLeDiff, List.length_set, true_and, and_true, Int.cast_ofNat_Int, eq_self, s_qGround_init, f_check_rows, r_put0, r_put10]
  refine ⟨_, rfl, ?_⟩
  show frzWs _ [T.int w, tri w g] = _
  exact Pln.list (Pln.consA (Pln.int _) (Pln.consA (Pln.tri _ _) Pln.nilA)) _
theorem f_check_ground (hn : 2 ≤ n) (w : Nat) (g : Nat → Nat → Int) : callS sh n .qcheck_ground [grd w g] = ret .non := by
  obtain ⟨k, rfl⟩ : ∃ m, n = m + 2 := ⟨n - 2, by omega⟩
  refine call_pure is_qcheck_ground (Pln.args (Pln.consA (Pln.grd _ _) Pln.nilA)) ?_
  simp (config := {maxSteps := 3000000}) (disch := first | assumption | with_unfolding_all exact id rfl | with_unfolding_all exact Nat.le_of_ble_eq_true rfl | omega) only [r_add, r_sub, r_mulL, r_mulR, r_mod, r_fdiv, r_divmod, r_pint, r_pintb, r_abs, r_min2, r_max2, r_lent, r_lenl, r_lens, r_lenr, r_tupl, r_tupt, r_negi, r_trub, r_trui, r_lt, r_le, r_gt, r_ge, r_isb, r_isnb, r_idxt, r_idxl, r_idxs, r_idxr, r_atT, r_at0, r_at1, r_at2, r_ix30, r_ix31, r_ix32, r_mkF, r_mkT, r_itt, r_itl, r_its, r_itr, r_stt, r_stl, r_sts, r_isii, r_isib, r_isit, r_isil, r_isis, r_k1, r_k2, r_k3, r_k4, r_k5, r_k6, r_k7, r_k8, r_k9, r_k10, r_k11, r_k12, r_k13, r_k14, r_k15, r_wi0, r_wi1, r_bin0, r_line, r_frzb, r_frzi, r_frzn, r_frzs, r_ret, r_no, ↓r_bnd, r_newO, r_getO, r_getO_set, r_setO, r_setO_set, r_ite, r_nox, ↓w_es0, ↓w_es1, ↓w_cO0, ↓w_cO1, ↓w_ifs0, ↓w_ifs1, ↓w_var, ↓w_con, ↓w_glob, ↓w_bin, ↓w_neg, ↓w_not, ↓w_and, ↓w_or, ↓w_ite, ↓w_cmp, ↓w_cmp2, ↓w_cmp3, ↓w_eqo, ↓w_tup, ↓w_lst, ↓w_idx, ↓w_slc, ↓w_fld, ↓w_call, ↓w_make, ↓w_meth, ↓w_prim, ↓w_isi, ↓w_bm, ↓w_lc, ↓w_rng, ↓w_enum, ↓w_zip, ↓w_seq, ↓w_gName, ↓w_gs0, ↓w_gs1, ↓w_gTup, ↓w_gTupL, ↓w_gSub, ↓w_gFld, ↓w_ss0, ↓w_ss1, ↓w_expr, ↓w_asg, ↓w_aug, ↓w_sret, ↓w_sif, ↓w_rai, ↓w_pass, ↓w_for, ↓w_runS, r_lineN, r_lentri, r_lenrow, r_tri, r_tri1, r_tri0, r_row, r_row1, r_row0, r_isitri, r_isirow, r_sort3, r_mid, r_n1, r_n0, ↓w_rngN, r_tupr, r_frztri, r_frzrow, ↓w_app0, r_cuttri, r_ittri, r_itrow, r_sttri, r_strow, r_atlast, r_put0, r_put10, r_fld0, r_fld1, r_isgrd, r_clsgrd, r_cutrow, r_eqi, r_nei, r_eqb, ↓w_lc2, ↓r_rng, ↓w_bme, ↓w_app, ↓w_ext, r_sortp, r_zip1, r_zip0, r_sort3, r_eql3, r_allT, r_alll, r_addl, r_addt, bd_qlaw, bd_l_right, bd_l_middles_right, bd_l_dip, bd_qmiddle, bi_qmiddle_0, bi_qmiddle_1, bd_qcheck_number, bd_qis_whole, bd_qmiddle_of, bd_l_is_whole, bd_l_rows, bd_l_size, bd_qGround_init, bd_qcheck_rows, bd_qis_row, bd_l_floors, bd_l_over, bd_qfloors, bi_qfloors_0, bd_qcheck_ground, bd_qfloors_of, bd_qnext_rows, bd_qtop, bi_qtop_0, bd_qtop_of, bd_qGround_put, bd_qcheck_spot, bd_qis_spot_of, bd_qis_within, bd_l_jar, bd_l_cell, bd_qGround_eq, gl_0, ↓bnd_ret, ↓bnd_no, ofO_some, Option.bind_some, id, List.getElem?_cons_zero, List.getElem?_cons_succ, List.set_cons_zero, List.set_cons_succ, List.length_cons, List.length_nil, if_true, if_false, Bool.false_eq_true, List.map_cons, List.map_nil, List.cons_append, List.nil_append, List.append_nil, List.replicate_succ, List.replicate_zero, ↓reduceIte, Bool.not_true, Bool.not_false, decide_true, decide_false, Nat.reduceAdd, Nat.reduceLT, Nat.reduceLeDiff, List.length_set, true_and, and_true, Int.cast_ofNat_Int, eq_self, s_qcheck_ground]
def ok (t : Int) (p : Pl) : Bool := decide ((0 ≤ p.1 ∧ p.1 ≤ t - 1) ∧ 0 ≤ p.2 ∧ p.2 ≤ p.1)
theorem f_spot_of (hn : 4 ≤ n) (t r a : Int) : callS sh n .qis_spot_of [.int t, .tup [.int r, .int a]] = ret (.bl (ok t (r, a))) := by
  obtain ⟨k, rfl⟩ : ∃ m, n = m + 2 := ⟨n - 2, by omega⟩
  refine call_pure is_qis_spot_of rfl ?_
  by_cases g : 0 ≤ r ∧ r ≤ t - 1 <;>
  · simp (config := {maxSteps := 3000000}) (disch := first | assumption | with_unfolding_all exact id rfl | with_unfolding_all exact Nat.le_of_ble_eq_true rfl | omega) only [r_add, r_sub, r_mulL, r_mulR, r_mod, r_fdiv, r_divmod, r_pint, r_pintb, r_abs, r_min2, r_max2, r_lent, r_lenl, r_lens, r_lenr, r_tupl, r_tupt, r_negi, r_trub, r_trui, r_lt, r_le, r_gt, r_ge, r_isb, r_isnb, r_idxt, r_idxl, r_idxs, r_idxr, r_atT, r_at0, r_at1, r_at2, r_ix30, r_ix31, r_ix32, r_mkF, r_mkT, r_itt, r_itl, r_its, r_itr, r_stt, r_stl, r_sts, r_isii, r_isib, r_isit, r_isil, r_isis, r_k1, r_k2, r_k3, r_k4, r_k5, r_k6, r_k7, r_k8, r_k9, r_k10, r_k11, r_k12, r_k13, r_k14, r_k15, r_wi0, r_wi1, r_bin0, r_line, r_frzb, r_frzi, r_frzn, r_frzs, r_ret, r_no, ↓r_bnd, r_newO, r_getO, r_getO_set, r_setO, r_setO_set, r_ite, r_nox, ↓w_es0, ↓w_es1, ↓w_cO0, ↓w_cO1, ↓w_ifs0, ↓w_ifs1, ↓w_var, ↓w_con, ↓w_glob, ↓w_bin, ↓w_neg, ↓w_not, ↓w_and, ↓w_or, ↓w_ite, ↓w_cmp, ↓w_cmp2, ↓w_cmp3, ↓w_eqo, ↓w_tup, ↓w_lst, ↓w_idx, ↓w_slc, ↓w_fld, ↓w_call, ↓w_make, ↓w_meth, ↓w_prim, ↓w_isi, ↓w_bm, ↓w_lc, ↓w_rng, ↓w_enum, ↓w_zip, ↓w_seq, ↓w_gName, ↓w_gs0, ↓w_gs1, ↓w_gTup, ↓w_gTupL, ↓w_gSub, ↓w_gFld, ↓w_ss0, ↓w_ss1, ↓w_expr, ↓w_asg, ↓w_aug, ↓w_sret, ↓w_sif, ↓w_rai, ↓w_pass, ↓w_for, ↓w_runS, r_lineN, r_lentri, r_lenrow, r_tri, r_tri1, r_tri0, r_row, r_row1, r_row0, r_isitri, r_isirow, r_sort3, r_mid, r_n1, r_n0, ↓w_rngN, r_tupr, r_frztri, r_frzrow, ↓w_app0, r_cuttri, r_ittri, r_itrow, r_sttri, r_strow, r_atlast, r_put0, r_put10, r_fld0, r_fld1, r_isgrd, r_clsgrd, r_cutrow, r_eqi, r_nei, r_eqb, ↓w_lc2, ↓r_rng, ↓w_bme, ↓w_app, ↓w_ext, r_sortp, r_zip1, r_zip0, r_sort3, r_eql3, r_allT, r_alll, r_addl, r_addt, bd_qlaw, bd_l_right, bd_l_middles_right, bd_l_dip, bd_qmiddle, bi_qmiddle_0, bi_qmiddle_1, bd_qcheck_number, bd_qis_whole, bd_qmiddle_of, bd_l_is_whole, bd_l_rows, bd_l_size, bd_qGround_init, bd_qcheck_rows, bd_qis_row, bd_l_floors, bd_l_over, bd_qfloors, bi_qfloors_0, bd_qcheck_ground, bd_qfloors_of, bd_qnext_rows, bd_qtop, bi_qtop_0, bd_qtop_of, bd_qGround_put, bd_qcheck_spot, bd_qis_spot_of, bd_qis_within, bd_l_jar, bd_l_cell, bd_qGround_eq, gl_0, ↓bnd_ret, ↓bnd_no, ofO_some, Option.bind_some, id, List.getElem?_cons_zero, List.getElem?_cons_succ, List.set_cons_zero, List.set_cons_succ, List.length_cons, List.length_nil, if_true, if_false, Bool.false_eq_true, List.map_cons, List.map_nil, List.cons_append, List.nil_append, List.append_nil, List.replicate_succ, List.replicate_zero, ↓reduceIte, Bool.not_true, Bool.not_false, decide_true, decide_false, Nat.reduceAdd, Nat.reduceLT, Nat.reduceLeDiff, List.length_set, true_and, and_true, Int.cast_ofNat_Int, eq_self, s_qis_spot_of, f_within, g]
    try simp [g, ok]
theorem f_check_spot (hn : 5 ≤ n) (t : Int) {r a : Int} (h : ok t (r, a) = true) : callS sh n .qcheck_spot [.int t, .tup [.int r, .int a]] = ret .non := by
  obtain ⟨k, rfl⟩ : ∃ m, n = m + 2 := ⟨n - 2, by omega⟩
  refine call_pure is_qcheck_spot rfl ?_
  simp (config := {maxSteps := 3000000}) (disch := first | assumption | with_unfolding_all exact id rfl | with_unfolding_all exact Nat.le_of_ble_eq_true rfl | omega) only [r_add, r_sub, r_mulL, r_mulR, r_mod, r_fdiv, r_divmod, r_pint, r_pintb, r_abs, r_min2, r_max2, r_lent, r_lenl, r_lens, r_lenr, r_tupl, r_tupt, r_negi, r_trub, r_trui, r_lt, r_le, r_gt, r_ge, r_isb, r_isnb, r_idxt, r_idxl, r_idxs, r_idxr, r_atT, r_at0, r_at1, r_at2, r_ix30, r_ix31, r_ix32, r_mkF, r_mkT, r_itt, r_itl, r_its, r_itr, r_stt, r_stl, r_sts, r_isii, r_isib, r_isit, r_isil, r_isis, r_k1, r_k2, r_k3, r_k4, r_k5, r_k6, r_k7, r_k8, r_k9, r_k10, r_k11, r_k12, r_k13, r_k14, r_k15, r_wi0, r_wi1, r_bin0, r_line, r_frzb, r_frzi, r_frzn, r_frzs, r_ret, r_no, ↓r_bnd, r_newO, r_getO, r_getO_set, r_setO, r_setO_set, r_ite, r_nox, ↓w_es0, ↓w_es1, ↓w_cO0, ↓w_cO1, ↓w_ifs0, ↓w_ifs1, ↓w_var, ↓w_con, ↓w_glob, ↓w_bin, ↓w_neg, ↓w_not, ↓w_and, ↓w_or, ↓w_ite, ↓w_cmp, ↓w_cmp2, ↓w_cmp3, ↓w_eqo, ↓w_tup, ↓w_lst, ↓w_idx, ↓w_slc, ↓w_fld, ↓w_call, ↓w_make, ↓w_meth, ↓w_prim, ↓w_isi, ↓w_bm, ↓w_lc, ↓w_rng, ↓w_enum, ↓w_zip, ↓w_seq, ↓w_gName, ↓w_gs0, ↓w_gs1, ↓w_gTup, ↓w_gTupL, ↓w_gSub, ↓w_gFld, ↓w_ss0, ↓w_ss1, ↓w_expr, ↓w_asg, ↓w_aug, ↓w_sret, ↓w_sif, ↓w_rai, ↓w_pass, ↓w_for, ↓w_runS, r_lineN, r_lentri, r_lenrow, r_tri, r_tri1, r_tri0, r_row, r_row1, r_row0, r_isitri, r_isirow, r_sort3, r_mid, r_n1, r_n0, ↓w_rngN, r_tupr, r_frztri, r_frzrow, ↓w_app0, r_cuttri, r_ittri, r_itrow, r_sttri, r_strow, r_atlast, r_put0, r_put10, r_fld0, r_fld1, r_isgrd, r_clsgrd, r_cutrow, r_eqi, r_nei, r_eqb, ↓w_lc2, ↓r_rng, ↓w_bme, ↓w_app, ↓w_ext, r_sortp, r_zip1, r_zip0, r_sort3, r_eql3, r_allT, r_alll, r_addl, r_addt, bd_qlaw, bd_l_right, bd_l_middles_right, bd_l_dip, bd_qmiddle, bi_qmiddle_0, bi_qmiddle_1, bd_qcheck_number, bd_qis_whole, bd_qmiddle_of, bd_l_is_whole, bd_l_rows, bd_l_size, bd_qGround_init, bd_qcheck_rows, bd_qis_row, bd_l_floors, bd_l_over, bd_qfloors, bi_qfloors_0, bd_qcheck_ground, bd_qfloors_of, bd_qnext_rows, bd_qtop, bi_qtop_0, bd_qtop_of, bd_qGround_put, bd_qcheck_spot, bd_qis_spot_of, bd_qis_within, bd_l_jar, bd_l_cell, bd_qGround_eq, gl_0, ↓bnd_ret, ↓bnd_no, ofO_some, Option.bind_some, id, List.getElem?_cons_zero, List.getElem?_cons_succ, List.set_cons_zero, List.set_cons_succ, List.length_cons, List.length_nil, if_true, if_false, Bool.false_eq_true, List.map_cons, List.map_nil, List.cons_append, List.nil_append, List.append_nil, List.replicate_succ, List.replicate_zero, ↓reduceIte, Bool.not_true, Bool.not_false, decide_true, decide_false, Nat.reduceAdd, Nat.reduceLT, Nat.reduceLeDiff, List.length_set, true_and, and_true, Int.cast_ofNat_Int, eq_self, s_qcheck_spot, f_spot_of, h]
theorem f_top (hn : 9 ≤ n) {w : Nat} (h1 : 1 ≤ w) (hw : w ≤ 12) (g : Nat → Nat → Int) : callS sh n .qtop [grd w g] = ret (.int (flo g (w - 1) 0 0)) := by
  obtain ⟨k, rfl⟩ : ∃ m, n = m + 2 := ⟨n - 2, by omega⟩
  refine call_pure is_qtop (Pln.args (Pln.consA (Pln.grd _ _) Pln.nilA)) ?_
  simp (config := {maxSteps := 3000000}) (disch := first | assumption | with_unfolding_all exact id rfl | with_unfolding_all exact Nat.le_of_ble_eq_true rfl | omega) only [r_add, r_sub, r_mulL, r_mulR, r_mod, r_fdiv, r_divmod, r_pint, r_pintb, r_abs, r_min2, r_max2, r_lent, r_lenl, r_lens, r_lenr, r_tupl, r_tupt, r_negi, r_trub, r_trui, r_lt, r_le, r_gt, r_ge, r_isb, r_isnb, r_idxt, r_idxl, r_idxs, r_idxr, r_atT, r_at0, r_at1, r_at2, r_ix30, r_ix31, r_ix32, r_mkF, r_mkT, r_itt, r_itl, r_its, r_itr, r_stt, r_stl, r_sts, r_isii, r_isib, r_isit, r_isil, r_isis, r_k1, r_k2, r_k3, r_k4, r_k5, r_k6, r_k7, r_k8, r_k9, r_k10, r_k11, r_k12, r_k13, r_k14, r_k15, r_wi0, r_wi1, r_bin0, r_line, r_frzb, r_frzi, r_frzn, r_frzs, r_ret, r_no, ↓r_bnd, r_newO, r_getO, r_getO_set, r_setO, r_setO_set, r_ite, r_nox, ↓w_es0, ↓w_es1, ↓w_cO0, ↓w_cO1, ↓w_ifs0, ↓w_ifs1, ↓w_var, ↓w_con, ↓w_glob, ↓w_bin, ↓w_neg, ↓w_not, ↓w_and, ↓w_or, ↓w_ite, ↓w_cmp, ↓w_cmp2, ↓w_cmp3, ↓w_eqo, ↓w_tup, ↓w_lst, ↓w_idx, ↓w_slc, ↓w_fld, ↓w_call, ↓w_make, ↓w_meth, ↓w_prim, ↓w_isi, ↓w_bm, ↓w_lc, ↓w_rng, ↓w_enum, ↓w_zip, ↓w_seq, ↓w_gName, ↓w_gs0, ↓w_gs1, ↓w_gTup, ↓w_gTupL, ↓w_gSub, ↓w_gFld, ↓w_ss0, ↓w_ss1, ↓w_expr, ↓w_asg, ↓w_aug, ↓w_sret, ↓w_sif, ↓w_rai, ↓w_pass, ↓w_for, ↓w_runS, r_lineN, r_lentri, r_lenrow, r_tri, r_tri1, r_tri0, r_row, r_row1, r_row0, r_isitri, r_isirow, r_sort3, r_mid, r_n1, r_n0, ↓w_rngN, r_tupr, r_frztri, r_frzrow, ↓w_app0, r_cuttri, r_ittri, r_itrow, r_sttri, r_strow, r_atlast, r_put0, r_put10, r_fld0, r_fld1, r_isgrd, r_clsgrd, r_cutrow, r_eqi, r_nei, r_eqb, ↓w_lc2, ↓r_rng, ↓w_bme, ↓w_app, ↓w_ext, r_sortp, r_zip1, r_zip0, r_sort3, r_eql3, r_allT, r_alll, r_addl, r_addt, bd_qlaw, bd_l_right, bd_l_middles_right, bd_l_dip, bd_qmiddle, bi_qmiddle_0, bi_qmiddle_1, bd_qcheck_number, bd_qis_whole, bd_qmiddle_of, bd_l_is_whole, bd_l_rows, bd_l_size, bd_qGround_init, bd_qcheck_rows, bd_qis_row, bd_l_floors, bd_l_over, bd_qfloors, bi_qfloors_0, bd_qcheck_ground, bd_qfloors_of, bd_qnext_rows, bd_qtop, bi_qtop_0, bd_qtop_of, bd_qGround_put, bd_qcheck_spot, bd_qis_spot_of, bd_qis_within, bd_l_jar, bd_l_cell, bd_qGround_eq, gl_0, ↓bnd_ret, ↓bnd_no, ofO_some, Option.bind_some, id, List.getElem?_cons_zero, List.getElem?_cons_succ, List.set_cons_zero, List.set_cons_succ, List.length_cons, List.length_nil, if_true, if_false, Bool.false_eq_true, List.map_cons, List.map_nil, List.cons_append, List.nil_append, List.append_nil, List.replicate_succ, List.replicate_zero, ↓reduceIte, Bool.not_true, Bool.not_false, decide_true, decide_false, Nat.reduceAdd, Nat.reduceLT, Nat.reduceLeDiff, List.length_set, true_and, and_true, Int.cast_ofNat_Int, eq_self, s_qtop, f_check_ground, f_top_of]
theorem f_floors (hn : 8 ≤ n) {w : Nat} (h1 : 1 ≤ w) (hw : w ≤ 12) (g : Nat → Nat → Int) : callS sh n .qfloors [grd w g] = ret (.tup (floL w g w)) := by
  obtain ⟨k, rfl⟩ : ∃ m, n = m + 2 := ⟨n - 2, by omega⟩
  refine call_pure is_qfloors (Pln.args (Pln.consA (Pln.grd _ _) Pln.nilA)) ?_
  simp (config := {maxSteps := 3000000}) (disch := first | assumption | with_unfolding_all exact id rfl | with_unfolding_all exact Nat.le_of_ble_eq_true rfl | omega) only [r_add, r_sub, r_mulL, r_mulR, r_mod, r_fdiv, r_divmod, r_pint, r_pintb, r_abs, r_min2, r_max2, r_lent, r_lenl, r_lens, r_lenr, r_tupl, r_tupt, r_negi, r_trub, r_trui, r_lt, r_le, r_gt, r_ge, r_isb, r_isnb, r_idxt, r_idxl, r_idxs, r_idxr, r_atT, r_at0, r_at1, r_at2, r_ix30, r_ix31, r_ix32, r_mkF, r_mkT, r_itt, r_itl, r_its, r_itr, r_stt, r_stl, r_sts, r_isii, r_isib, r_isit, r_isil, r_isis, r_k1, r_k2, r_k3, r_k4, r_k5, r_k6, r_k7, r_k8, r_k9, r_k10, r_k11, r_k12, r_k13, r_k14, r_k15, r_wi0, r_wi1, r_bin0, r_line, r_frzb, r_frzi, r_frzn, r_frzs, r_ret, r_no, ↓r_bnd, r_newO, r_getO, r_getO_set, r_setO, r_setO_set, r_ite, r_nox, ↓w_es0, ↓w_es1, ↓w_cO0, ↓w_cO1, ↓w_ifs0, ↓w_ifs1, ↓w_var, ↓w_con, ↓w_glob, ↓w_bin, ↓w_neg, ↓w_not, ↓w_and, ↓w_or, ↓w_ite, ↓w_cmp, ↓w_cmp2, ↓w_cmp3, ↓w_eqo, ↓w_tup, ↓w_lst, ↓w_idx, ↓w_slc, ↓w_fld, ↓w_call, ↓w_make, ↓w_meth, ↓w_prim, ↓w_isi, ↓w_bm, ↓w_lc, ↓w_rng, ↓w_enum, ↓w_zip, ↓w_seq, ↓w_gName, ↓w_gs0, ↓w_gs1, ↓w_gTup, ↓w_gTupL, ↓w_gSub, ↓w_gFld, ↓w_ss0, ↓w_ss1, ↓w_expr, ↓w_asg, ↓w_aug, ↓w_sret, ↓w_sif, ↓w_rai, ↓w_pass, ↓w_for, ↓w_runS, r_lineN, r_lentri, r_lenrow, r_tri, r_tri1, r_tri0, r_row, r_row1, r_row0, r_isitri, r_isirow, r_sort3, r_mid, r_n1, r_n0, ↓w_rngN, r_tupr, r_frztri, r_frzrow, ↓w_app0, r_cuttri, r_ittri, r_itrow, r_sttri, r_strow, r_atlast, r_put0, r_put10, r_fld0, r_fld1, r_isgrd, r_clsgrd, r_cutrow, r_eqi, r_nei, r_eqb, ↓w_lc2, ↓r_rng, ↓w_bme, ↓w_app, ↓w_ext, r_sortp, r_zip1, r_zip0, r_sort3, r_eql3, r_allT, r_alll, r_addl, r_addt, bd_qlaw, bd_l_right, bd_l_middles_right, bd_l_dip, bd_qmiddle, bi_qmiddle_0, bi_qmiddle_1, bd_qcheck_number, bd_qis_whole, bd_qmiddle_of, bd_l_is_whole, bd_l_rows, bd_l_size, bd_qGround_init, bd_qcheck_rows, bd_qis_row, bd_l_floors, bd_l_over, bd_qfloors, bi_qfloors_0, bd_qcheck_ground, bd_qfloors_of, bd_qnext_rows, bd_qtop, bi_qtop_0, bd_qtop_of, bd_qGround_put, bd_qcheck_spot, bd_qis_spot_of, bd_qis_within, bd_l_jar, bd_l_cell, bd_qGround_eq, gl_0, ↓bnd_ret, ↓bnd_no, ofO_some, Option.bind_some, id, List.getElem?_cons_zero, List.getElem?_cons_succ, List.set_cons_zero, List.set_cons_succ, List.length_cons, List.length_nil, if_true, if_false, Bool.false_eq_true, List.map_cons, List.map_nil, List.cons_append, List.nil_append, List.append_nil, List.replicate_succ, List.replicate_zero, ↓reduceIte, Bool.not_true, Bool.not_false, decide_true, decide_false, Nat.reduceAdd, Nat.reduceLT, Nat.reduceLeDiff, List.length_set, true_and, and_true, Int.cast_ofNat_Int, eq_self, s_qfloors, f_check_ground, f_floors_of]
  exact Pln.fr (Pln.tup (Pln.floL w g w)) _ _
theorem reach_at {i : Int} (h0 : 0 ≤ i) (h1 : i < 6) : ∃ R : Int, L2.atI [T.int 1, T.int 1, T.int 2, T.int 4, T.int 200, T.int 1000000000000000000000000000000000000000] i = some (.int R) ∧ 1 ≤ R ∧ R ≤ 1000000000000000000000000000000000000000 := by
  obtain ⟨j, rfl⟩ : ∃ j : Nat, i = j := ⟨i.toNat, by omega⟩
  rcases (by omega : j = 0 ∨ j = 1 ∨ j = 2 ∨ j = 3 ∨ j = 4 ∨ j = 5) with rfl | rfl | rfl | rfl | rfl | rfl
  · exact ⟨1, L2.atI_nat rfl, by decide, by decide⟩
  · exact ⟨1, L2.atI_nat rfl, by decide, by decide⟩
  · exact ⟨2, L2.atI_nat rfl, by decide, by decide⟩
  · exact ⟨4, L2.atI_nat rfl, by decide, by decide⟩
  · exact ⟨200, L2.atI_nat rfl, by decide, by decide⟩
  · exact ⟨_, L2.atI_nat rfl, by decide, by decide⟩
def Sm (i : Int) : Prop := -1000000000000000000000000000000000000000 ≤ i ∧ i ≤ 1000000000000000000000000000000000000000
theorem f_rows {h : Sto} {n0 : Nat} (j : Jr h n0) (hn : 4 ≤ n) {w : Nat} (hw : w ≤ 12) :
    W (callS sh n .l_rows [.ref n0, .int w]) h fun v h' => ∃ g : Nat → Nat → Int, v = tri w g ∧ (∀ r a, Sm (g r a)) ∧ Jr h' n0 ∧ Mo n0 h h' := by
  obtain ⟨k, rfl⟩ : ∃ m, n = m + 2 := ⟨n - 2, by omega⟩
  refine call_sv is_l_rows j ?_
  have ll := line1000
  have p0 : Sm 0 := by unfold Sm; omega
  simp (config := {maxSteps := 3000000}) (disch := first | assumption | with_unfolding_all exact id rfl | with_unfolding_all exact Nat.le_of_ble_eq_true rfl | omega) only [r_add, r_sub, r_mulL, r_mulR, r_mod, r_fdiv, r_divmod, r_pint, r_pintb, r_abs, r_min2, r_max2, r_lent, r_lenl, r_lens, r_lenr, r_tupl, r_tupt, r_negi, r_trub, r_trui, r_lt, r_le, r_gt, r_ge, r_isb, r_isnb, r_idxt, r_idxl, r_idxs, r_idxr, r_atT, r_at0, r_at1, r_at2, r_ix30, r_ix31, r_ix32, r_mkF, r_mkT, r_itt, r_itl, r_its, r_itr, r_stt, r_stl, r_sts, r_isii, r_isib, r_isit, r_isil, r_isis, r_k1, r_k2, r_k3, r_k4, r_k5, r_k6, r_k7, r_k8, r_k9, r_k10, r_k11, r_k12, r_k13, r_k14, r_k15, r_wi0, r_wi1, r_bin0, r_line, r_frzb, r_frzi, r_frzn, r_frzs, r_ret, r_no, ↓r_bnd, r_newO, r_getO, r_getO_set, r_setO, r_setO_set, r_ite, r_nox, ↓w_es0, ↓w_es1, ↓w_cO0, ↓w_cO1, ↓w_ifs0, ↓w_ifs1, ↓w_var, ↓w_con, ↓w_glob, ↓w_bin, ↓w_neg, ↓w_not, ↓w_and, ↓w_or, ↓w_ite, ↓w_cmp, ↓w_cmp2, ↓w_cmp3, ↓w_eqo, ↓w_tup, ↓w_lst, ↓w_idx, ↓w_slc, ↓w_fld, ↓w_call, ↓w_make, ↓w_meth, ↓w_prim, ↓w_isi, ↓w_bm, ↓w_lc, ↓w_rng, ↓w_enum, ↓w_zip, ↓w_seq, ↓w_gName, ↓w_gs0, ↓w_gs1, ↓w_gTup, ↓w_gTupL, ↓w_gSub, ↓w_gFld, ↓w_ss0, ↓w_ss1, ↓w_expr, ↓w_asg, ↓w_aug, ↓w_sret, ↓w_sif, ↓w_rai, ↓w_pass, ↓w_for, ↓w_runS, r_lineN, r_lentri, r_lenrow, r_tri, r_tri1, r_tri0, r_row, r_row1, r_row0, r_isitri, r_isirow, r_sort3, r_mid, r_n1, r_n0, ↓w_rngN, r_tupr, r_frztri, r_frzrow, ↓w_app0, r_cuttri, r_ittri, r_itrow, r_sttri, r_strow, r_atlast, r_put0, r_put10, r_fld0, r_fld1, r_isgrd, r_clsgrd, r_cutrow, r_eqi, r_nei, r_eqb, ↓w_lc2, ↓r_rng, ↓w_bme, ↓w_app, ↓w_ext, r_sortp, r_zip1, r_zip0, r_sort3, r_eql3, r_allT, r_alll, r_addl, r_addt, bd_qlaw, bd_l_right, bd_l_middles_right, bd_l_dip, bd_qmiddle, bi_qmiddle_0, bi_qmiddle_1, bd_qcheck_number, bd_qis_whole, bd_qmiddle_of, bd_l_is_whole, bd_l_rows, bd_l_size, bd_qGround_init, bd_qcheck_rows, bd_qis_row, bd_l_floors, bd_l_over, bd_qfloors, bi_qfloors_0, bd_qcheck_ground, bd_qfloors_of, bd_qnext_rows, bd_qtop, bi_qtop_0, bd_qtop_of, bd_qGround_put, bd_qcheck_spot, bd_qis_spot_of, bd_qis_within, bd_l_jar, bd_l_cell, bd_qGround_eq, gl_0, ↓bnd_ret, ↓bnd_no, ofO_some, Option.bind_some, id, List.getElem?_cons_zero, List.getElem?_cons_succ, List.set_cons_zero, List.set_cons_succ, List.length_cons, List.length_nil, if_true, if_false, Bool.false_eq_true, List.map_cons, List.map_nil, List.cons_append, List.nil_append, List.append_nil, List.replicate_succ, List.replicate_zero, ↓reduceIte, Bool.not_true, Bool.not_false, decide_true, decide_false, Nat.reduceAdd, Nat.reduceLT, Nat.reduceLeDiff, List.length_set, true_and, and_true, Int.cast_ofNat_Int, eq_self, s_l_rows, r_pow39]
  refine (dip3 is_l_dip j (by omega) (by omega) (by omega)).mono ?_
  rintro _ h1 ⟨i, rfl, i0, i1, j1, m1⟩
  obtain ⟨R, e, R0, R1⟩ := reach_at i0 i1
  have s1 : Sv h (h1 ++ [.lst []]) n0 := ((Sv.refl j).dip m1).push (Cl.list fun _ m => nomatch m)
  have hp : (h1 ++ [O.lst []])[h1.length]? = some (.lst []) := by simp
  have hle : h.length ≤ h1.length := by rw [m1.len]; exact Nat.le_refl _
  simp (config := {maxSteps := 3000000}) (disch := first | assumption | with_unfolding_all exact id rfl | with_unfolding_all exact Nat.le_of_ble_eq_true rfl | omega) only [r_add, r_sub, r_mulL, r_mulR, r_mod, r_fdiv, r_divmod, r_pint, r_pintb, r_abs, r_min2, r_max2, r_lent, r_lenl, r_lens, r_lenr, r_tupl, r_tupt, r_negi, r_trub, r_trui, r_lt, r_le, r_gt, r_ge, r_isb, r_isnb, r_idxt, r_idxl, r_idxs, r_idxr, r_atT, r_at0, r_at1, r_at2, r_ix30, r_ix31, r_ix32, r_mkF, r_mkT, r_itt, r_itl, r_its, r_itr, r_stt, r_stl, r_sts, r_isii, r_isib, r_isit, r_isil, r_isis, r_k1, r_k2, r_k3, r_k4, r_k5, r_k6, r_k7, r_k8, r_k9, r_k10, r_k11, r_k12, r_k13, r_k14, r_k15, r_wi0, r_wi1, r_bin0, r_line, r_frzb, r_frzi, r_frzn, r_frzs, r_ret, r_no, ↓r_bnd, r_newO, r_getO, r_getO_set, r_setO, r_setO_set, r_ite, r_nox, ↓w_es0, ↓w_es1, ↓w_cO0, ↓w_cO1, ↓w_ifs0, ↓w_ifs1, ↓w_var, ↓w_con, ↓w_glob, ↓w_bin, ↓w_neg, ↓w_not, ↓w_and, ↓w_or, ↓w_ite, ↓w_cmp, ↓w_cmp2, ↓w_cmp3, ↓w_eqo, ↓w_tup, ↓w_lst, ↓w_idx, ↓w_slc, ↓w_fld, ↓w_call, ↓w_make, ↓w_meth, ↓w_prim, ↓w_isi, ↓w_bm, ↓w_lc, ↓w_rng, ↓w_enum, ↓w_zip, ↓w_seq, ↓w_gName, ↓w_gs0, ↓w_gs1, ↓w_gTup, ↓w_gTupL, ↓w_gSub, ↓w_gFld, ↓w_ss0, ↓w_ss1, ↓w_expr, ↓w_asg, ↓w_aug, ↓w_sret, ↓w_sif, ↓w_rai, ↓w_pass, ↓w_for, ↓w_runS, r_lineN, r_lentri, r_lenrow, r_tri, r_tri1, r_tri0, r_row, r_row1, r_row0, r_isitri, r_isirow, r_sort3, r_mid, r_n1, r_n0, ↓w_rngN, r_tupr, r_frztri, r_frzrow, ↓w_app0, r_cuttri, r_ittri, r_itrow, r_sttri, r_strow, r_atlast, r_put0, r_put10, r_fld0, r_fld1, r_isgrd, r_clsgrd, r_cutrow, r_eqi, r_nei, r_eqb, ↓w_lc2, ↓r_rng, ↓w_bme, ↓w_app, ↓w_ext, r_sortp, r_zip1, r_zip0, r_sort3, r_eql3, r_allT, r_alll, r_addl, r_addt, bd_qlaw, bd_l_right, bd_l_middles_right, bd_l_dip, bd_qmiddle, bi_qmiddle_0, bi_qmiddle_1, bd_qcheck_number, bd_qis_whole, bd_qmiddle_of, bd_l_is_whole, bd_l_rows, bd_l_size, bd_qGround_init, bd_qcheck_rows, bd_qis_row, bd_l_floors, bd_l_over, bd_qfloors, bi_qfloors_0, bd_qcheck_ground, bd_qfloors_of, bd_qnext_rows, bd_qtop, bi_qtop_0, bd_qtop_of, bd_qGround_put, bd_qcheck_spot, bd_qis_spot_of, bd_qis_within, bd_l_jar, bd_l_cell, bd_qGround_eq, gl_0, ↓bnd_ret, ↓bnd_no, ofO_some, Option.bind_some, id, List.getElem?_cons_zero, List.getElem?_cons_succ, List.set_cons_zero, List.set_cons_succ, List.length_cons, List.length_nil, if_true, if_false, Bool.false_eq_true, List.map_cons, List.map_nil, List.cons_append, List.nil_append, List.append_nil, List.replicate_succ, List.replicate_zero, ↓reduceIte, Bool.not_true, Bool.not_false, decide_true, decide_false, Nat.reduceAdd, Nat.reduceLT, Nat.reduceLeDiff, List.length_set, true_and, and_true, Int.cast_ofNat_Int, eq_self, e]
  refine W_forR (fun k σ h2 => Sv h h2 n0 ∧ ∃ (g : Nat → Nat → Int) (x2 x5 : Option T), h2[h1.length]? = some (.lst ((List.range k).map fun r => rowT (g r) (r + 1))) ∧ (∀ r a, Sm (g r a)) ∧
    σ = [some (.ref n0), some (.int w), x2, some (.int R), some (.ref h1.length), x5]) ?_ ⟨s1, fun _ _ => 0, _, _, hp, fun _ _ => p0, rfl⟩ ?_
  · rintro r hr σ h2 ⟨s2, g, x2, x5, e2, gs, rfl⟩
    simp (config := {maxSteps := 3000000}) (disch := first | assumption | with_unfolding_all exact id rfl | with_unfolding_all exact Nat.le_of_ble_eq_true rfl | omega) only [r_add, r_sub, r_mulL, r_mulR, r_mod, r_fdiv, r_divmod, r_pint, r_pintb, r_abs, r_min2, r_max2, r_lent, r_lenl, r_lens, r_lenr, r_tupl, r_tupt, r_negi, r_trub, r_trui, r_lt, r_le, r_gt, r_ge, r_isb, r_isnb, r_idxt, r_idxl, r_idxs, r_idxr, r_atT, r_at0, r_at1, r_at2, r_ix30, r_ix31, r_ix32, r_mkF, r_mkT, r_itt, r_itl, r_its, r_itr, r_stt, r_stl, r_sts, r_isii, r_isib, r_isit, r_isil, r_isis, r_k1, r_k2, r_k3, r_k4, r_k5, r_k6, r_k7, r_k8, r_k9, r_k10, r_k11, r_k12, r_k13, r_k14, r_k15, r_wi0, r_wi1, r_bin0, r_line, r_frzb, r_frzi, r_frzn, r_frzs, r_ret, r_no, ↓r_bnd, r_newO, r_getO, r_getO_set, r_setO, r_setO_set, r_ite, r_nox, ↓w_es0, ↓w_es1, ↓w_cO0, ↓w_cO1, ↓w_ifs0, ↓w_ifs1, ↓w_var, ↓w_con, ↓w_glob, ↓w_bin, ↓w_neg, ↓w_not, ↓w_and, ↓w_or, ↓w_ite, ↓w_cmp, ↓w_cmp2, ↓w_cmp3, ↓w_eqo, ↓w_tup, ↓w_lst, ↓w_idx, ↓w_slc, ↓w_fld, ↓w_call, ↓w_make, ↓w_meth, ↓w_prim, ↓w_isi, ↓w_bm, ↓w_lc, ↓w_rng, ↓w_enum, ↓w_zip, ↓w_seq, ↓w_gName, ↓w_gs0, ↓w_gs1, ↓w_gTup, ↓w_gTupL, ↓w_gSub, ↓w_gFld, ↓w_ss0, ↓w_ss1, ↓w_expr, ↓w_asg, ↓w_aug, ↓w_sret, ↓w_sif, ↓w_rai, ↓w_pass, ↓w_for, ↓w_runS, r_lineN, r_lentri, r_lenrow, r_tri, r_tri1, r_tri0, r_row, r_row1, r_row0, r_isitri, r_isirow, r_sort3, r_mid, r_n1, r_n0, ↓w_rngN, r_tupr, r_frztri, r_frzrow, ↓w_app0, r_cuttri, r_ittri, r_itrow, r_sttri, r_strow, r_atlast, r_put0, r_put10, r_fld0, r_fld1, r_isgrd, r_clsgrd, r_cutrow, r_eqi, r_nei, r_eqb, ↓w_lc2, ↓r_rng, ↓w_bme, ↓w_app, ↓w_ext, r_sortp, r_zip1, r_zip0, r_sort3, r_eql3, r_allT, r_alll, r_addl, r_addt, bd_qlaw, bd_l_right, bd_l_middles_right, bd_l_dip, bd_qmiddle, bi_qmiddle_0, bi_qmiddle_1, bd_qcheck_number, bd_qis_whole, bd_qmiddle_of, bd_l_is_whole, bd_l_rows, bd_l_size, bd_qGround_init, bd_qcheck_rows, bd_qis_row, bd_l_floors, bd_l_over, bd_qfloors, bi_qfloors_0, bd_qcheck_ground, bd_qfloors_of, bd_qnext_rows, bd_qtop, bi_qtop_0, bd_qtop_of, bd_qGround_put, bd_qcheck_spot, bd_qis_spot_of, bd_qis_within, bd_l_jar, bd_l_cell, bd_qGround_eq, gl_0, ↓bnd_ret, ↓bnd_no, ofO_some, Option.bind_some, id, List.getElem?_cons_zero, List.getElem?_cons_succ, List.set_cons_zero, List.set_cons_succ, List.length_cons, List.length_nil, if_true, if_false, Bool.false_eq_true, List.map_cons, List.map_nil, List.cons_append, List.nil_append, List.append_nil, List.replicate_succ, List.replicate_zero, ↓reduceIte, Bool.not_true, Bool.not_false, decide_true, decide_false, Nat.reduceAdd, Nat.reduceLT, Nat.reduceLeDiff, List.length_set, true_and, and_true, Int.cast_ofNat_Int, eq_self]
    refine (W_comp (fun h3 => Sv h h3 n0 ∧ h3[h1.length]? = some (.lst ((List.range r).map fun r => rowT (g r) (r + 1)))) (fun y => ∃ i : Int, y = .int i ∧ Sm i) (fun x m h3 jj => ?_) ⟨s2, e2⟩).mono ?_
    · obtain ⟨s3, e3⟩ := jj
      obtain ⟨i, m, rfl⟩ := List.mem_map.mp m
      simp (config := {maxSteps := 3000000}) (disch := first | assumption | with_unfolding_all exact id rfl | with_unfolding_all exact Nat.le_of_ble_eq_true rfl | omega) only [r_add, r_sub, r_mulL, r_mulR, r_mod, r_fdiv, r_divmod, r_pint, r_pintb, r_abs, r_min2, r_max2, r_lent, r_lenl, r_lens, r_lenr, r_tupl, r_tupt, r_negi, r_trub, r_trui, r_lt, r_le, r_gt, r_ge, r_isb, r_isnb, r_idxt, r_idxl, r_idxs, r_idxr, r_atT, r_at0, r_at1, r_at2, r_ix30, r_ix31, r_ix32, r_mkF, r_mkT, r_itt, r_itl, r_its, r_itr, r_stt, r_stl, r_sts, r_isii, r_isib, r_isit, r_isil, r_isis, r_k1, r_k2, r_k3, r_k4, r_k5, r_k6, r_k7, r_k8, r_k9, r_k10, r_k11, r_k12, r_k13, r_k14, r_k15, r_wi0, r_wi1, r_bin0, r_line, r_frzb, r_frzi, r_frzn, r_frzs, r_ret, r_no, ↓r_bnd, r_newO, r_getO, r_getO_set, r_setO, r_setO_set, r_ite, r_nox, ↓w_es0, ↓w_es1, ↓w_cO0, ↓w_cO1, ↓w_ifs0, ↓w_ifs1, ↓w_var, ↓w_con, ↓w_glob, ↓w_bin, ↓w_neg, ↓w_not, ↓w_and, ↓w_or, ↓w_ite, ↓w_cmp, ↓w_cmp2, ↓w_cmp3, ↓w_eqo, ↓w_tup, ↓w_lst, ↓w_idx, ↓w_slc, ↓w_fld, ↓w_call, ↓w_make, ↓w_meth, ↓w_prim, ↓w_isi, ↓w_bm, ↓w_lc, ↓w_rng, ↓w_enum, ↓w_zip, ↓w_seq, ↓w_gName, ↓w_gs0, ↓w_gs1, ↓w_gTup, ↓w_gTupL, ↓w_gSub, ↓w_gFld, ↓w_ss0, ↓w_ss1, ↓w_expr, ↓w_asg, ↓w_aug, ↓w_sret, ↓w_sif, ↓w_rai, ↓w_pass, ↓w_for, ↓w_runS, r_lineN, r_lentri, r_lenrow, r_tri, r_tri1, r_tri0, r_row, r_row1, r_row0, r_isitri, r_isirow, r_sort3, r_mid, r_n1, r_n0, ↓w_rngN, r_tupr, r_frztri, r_frzrow, ↓w_app0, r_cuttri, r_ittri, r_itrow, r_sttri, r_strow, r_atlast, r_put0, r_put10, r_fld0, r_fld1, r_isgrd, r_clsgrd, r_cutrow, r_eqi, r_nei, r_eqb, ↓w_lc2, ↓r_rng, ↓w_bme, ↓w_app, ↓w_ext, r_sortp, r_zip1, r_zip0, r_sort3, r_eql3, r_allT, r_alll, r_addl, r_addt, bd_qlaw, bd_l_right, bd_l_middles_right, bd_l_dip, bd_qmiddle, bi_qmiddle_0, bi_qmiddle_1, bd_qcheck_number, bd_qis_whole, bd_qmiddle_of, bd_l_is_whole, bd_l_rows, bd_l_size, bd_qGround_init, bd_qcheck_rows, bd_qis_row, bd_l_floors, bd_l_over, bd_qfloors, bi_qfloors_0, bd_qcheck_ground, bd_qfloors_of, bd_qnext_rows, bd_qtop, bi_qtop_0, bd_qtop_of, bd_qGround_put, bd_qcheck_spot, bd_qis_spot_of, bd_qis_within, bd_l_jar, bd_l_cell, bd_qGround_eq, gl_0, ↓bnd_ret, ↓bnd_no, ofO_some, Option.bind_some, id, List.getElem?_cons_zero, List.getElem?_cons_succ, List.set_cons_zero, List.set_cons_succ, List.length_cons, List.length_nil, if_true, if_false, Bool.false_eq_true, List.map_cons, List.map_nil, List.cons_append, List.nil_append, List.append_nil, List.replicate_succ, List.replicate_zero, ↓reduceIte, Bool.not_true, Bool.not_false, decide_true, decide_false, Nat.reduceAdd, Nat.reduceLT, Nat.reduceLeDiff, List.length_set, true_and, and_true, Int.cast_ofNat_Int, eq_self]
      refine (dip3 is_l_dip s3.j (by omega) (by omega) (by omega)).mono ?_
      rintro _ h4 ⟨i, rfl, i0, i1, j4, m4⟩
      have hne : h1.length ≠ n0 := by have := s3.lt; omega
      simp (config := {maxSteps := 3000000}) (disch := first | assumption | with_unfolding_all exact id rfl | with_unfolding_all exact Nat.le_of_ble_eq_true rfl | omega) only [r_add, r_sub, r_mulL, r_mulR, r_mod, r_fdiv, r_divmod, r_pint, r_pintb, r_abs, r_min2, r_max2, r_lent, r_lenl, r_lens, r_lenr, r_tupl, r_tupt, r_negi, r_trub, r_trui, r_lt, r_le, r_gt, r_ge, r_isb, r_isnb, r_idxt, r_idxl, r_idxs, r_idxr, r_atT, r_at0, r_at1, r_at2, r_ix30, r_ix31, r_ix32, r_mkF, r_mkT, r_itt, r_itl, r_its, r_itr, r_stt, r_stl, r_sts, r_isii, r_isib, r_isit, r_isil, r_isis, r_k1, r_k2, r_k3, r_k4, r_k5, r_k6, r_k7, r_k8, r_k9, r_k10, r_k11, r_k12, r_k13, r_k14, r_k15, r_wi0, r_wi1, r_bin0, r_line, r_frzb, r_frzi, r_frzn, r_frzs, r_ret, r_no, ↓r_bnd, r_newO, r_getO, r_getO_set, r_setO, r_setO_set, r_ite, r_nox, ↓w_es0, ↓w_es1, ↓w_cO0, ↓w_cO1, ↓w_ifs0, ↓w_ifs1, ↓w_var, ↓w_con, ↓w_glob, ↓w_bin, ↓w_neg, ↓w_not, ↓w_and, ↓w_or, ↓w_ite, ↓w_cmp, ↓w_cmp2, ↓w_cmp3, ↓w_eqo, ↓w_tup, ↓w_lst, ↓w_idx, ↓w_slc, ↓w_fld, ↓w_call, ↓w_make, ↓w_meth, ↓w_prim, ↓w_isi, ↓w_bm, ↓w_lc, ↓w_rng, ↓w_enum, ↓w_zip, ↓w_seq, ↓w_gName, ↓w_gs0, ↓w_gs1, ↓w_gTup, ↓w_gTupL, ↓w_gSub, ↓w_gFld, ↓w_ss0, ↓w_ss1, ↓w_expr, ↓w_asg, ↓w_aug, ↓w_sret, ↓w_sif, ↓w_rai, ↓w_pass, ↓w_for, ↓w_runS, r_lineN, r_lentri, r_lenrow, r_tri, r_tri1, r_tri0, r_row, r_row1, r_row0, r_isitri, r_isirow, r_sort3, r_mid, r_n1, r_n0, ↓w_rngN, r_tupr, r_frztri, r_frzrow, ↓w_app0, r_cuttri, r_ittri, r_itrow, r_sttri, r_strow, r_atlast, r_put0, r_put10, r_fld0, r_fld1, r_isgrd, r_clsgrd, r_cutrow, r_eqi, r_nei, r_eqb, ↓w_lc2, ↓r_rng, ↓w_bme, ↓w_app, ↓w_ext, r_sortp, r_zip1, r_zip0, r_sort3, r_eql3, r_allT, r_alll, r_addl, r_addt, bd_qlaw, bd_l_right, bd_l_middles_right, bd_l_dip, bd_qmiddle, bi_qmiddle_0, bi_qmiddle_1, bd_qcheck_number, bd_qis_whole, bd_qmiddle_of, bd_l_is_whole, bd_l_rows, bd_l_size, bd_qGround_init, bd_qcheck_rows, bd_qis_row, bd_l_floors, bd_l_over, bd_qfloors, bi_qfloors_0, bd_qcheck_ground, bd_qfloors_of, bd_qnext_rows, bd_qtop, bi_qtop_0, bd_qtop_of, bd_qGround_put, bd_qcheck_spot, bd_qis_spot_of, bd_qis_within, bd_l_jar, bd_l_cell, bd_qGround_eq, gl_0, ↓bnd_ret, ↓bnd_no, ofO_some, Option.bind_some, id, List.getElem?_cons_zero, List.getElem?_cons_succ, List.set_cons_zero, List.set_cons_succ, List.length_cons, List.length_nil, if_true, if_false, Bool.false_eq_true, List.map_cons, List.map_nil, List.cons_append, List.nil_append, List.append_nil, List.replicate_succ, List.replicate_zero, ↓reduceIte, Bool.not_true, Bool.not_false, decide_true, decide_false, Nat.reduceAdd, Nat.reduceLT, Nat.reduceLeDiff, List.length_set, true_and, and_true, Int.cast_ofNat_Int, eq_self]
      exact ⟨⟨s3.dip m4, by rw [m4.ne hne]; exact e3⟩, _, rfl, _, rfl, by unfold Sm; omega⟩
    · rintro ys h3 ⟨⟨s3, e3⟩, ly, hy⟩
      obtain ⟨v, ev, pv⟩ := ints_fun Sm p0 hy
      have ly' : ys.length = r + 1 := by
        rw [ly, List.length_map, List.length_range]
      rw [ly'] at ev
      subst ev
      have l3 : (List.map (fun a => T.int (v a)) (List.range (r + 1))).length ≤ sizeLine := by rw [ly']; omega
      have l4 : (List.map (fun r => rowT (g r) (r + 1)) (List.range r)).length < sizeLine := by rw [len_range]; omega
      simp (config := {maxSteps := 3000000}) (disch := first | assumption | with_unfolding_all exact id rfl | with_unfolding_all exact Nat.le_of_ble_eq_true rfl | omega) only [r_add, r_sub, r_mulL, r_mulR, r_mod, r_fdiv, r_divmod, r_pint, r_pintb, r_abs, r_min2, r_max2, r_lent, r_lenl, r_lens, r_lenr, r_tupl, r_tupt, r_negi, r_trub, r_trui, r_lt, r_le, r_gt, r_ge, r_isb, r_isnb, r_idxt, r_idxl, r_idxs, r_idxr, r_atT, r_at0, r_at1, r_at2, r_ix30, r_ix31, r_ix32, r_mkF, r_mkT, r_itt, r_itl, r_its, r_itr, r_stt, r_stl, r_sts, r_isii, r_isib, r_isit, r_isil, r_isis, r_k1, r_k2, r_k3, r_k4, r_k5, r_k6, r_k7, r_k8, r_k9, r_k10, r_k11, r_k12, r_k13, r_k14, r_k15, r_wi0, r_wi1, r_bin0, r_line, r_frzb, r_frzi, r_frzn, r_frzs, r_ret, r_no, ↓r_bnd, r_newO, r_getO, r_getO_set, r_setO, r_setO_set, r_ite, r_nox, ↓w_es0, ↓w_es1, ↓w_cO0, ↓w_cO1, ↓w_ifs0, ↓w_ifs1, ↓w_var, ↓w_con, ↓w_glob, ↓w_bin, ↓w_neg, ↓w_not, ↓w_and, ↓w_or, ↓w_ite, ↓w_cmp, ↓w_cmp2, ↓w_cmp3, ↓w_eqo, ↓w_tup, ↓w_lst, ↓w_idx, ↓w_slc, ↓w_fld, ↓w_call, ↓w_make, ↓w_meth, ↓w_prim, ↓w_isi, ↓w_bm, ↓w_lc, ↓w_rng, ↓w_enum, ↓w_zip, ↓w_seq, ↓w_gName, ↓w_gs0, ↓w_gs1, ↓w_gTup, ↓w_gTupL, ↓w_gSub, ↓w_gFld, ↓w_ss0, ↓w_ss1, ↓w_expr, ↓w_asg, ↓w_aug, ↓w_sret, ↓w_sif, ↓w_rai, ↓w_pass, ↓w_for, ↓w_runS, r_lineN, r_lentri, r_lenrow, r_tri, r_tri1, r_tri0, r_row, r_row1, r_row0, r_isitri, r_isirow, r_sort3, r_mid, r_n1, r_n0, ↓w_rngN, r_tupr, r_frztri, r_frzrow, ↓w_app0, r_cuttri, r_ittri, r_itrow, r_sttri, r_strow, r_atlast, r_put0, r_put10, r_fld0, r_fld1, r_isgrd, r_clsgrd, r_cutrow, r_eqi, r_nei, r_eqb, ↓w_lc2, ↓r_rng, ↓w_bme, ↓w_app, ↓w_ext, r_sortp, r_zip1, r_zip0, r_sort3, r_eql3, r_allT, r_alll, r_addl, r_addt, bd_qlaw, bd_l_right, bd_l_middles_right, bd_l_dip, bd_qmiddle, bi_qmiddle_0, bi_qmiddle_1, bd_qcheck_number, bd_qis_whole, bd_qmiddle_of, bd_l_is_whole, bd_l_rows, bd_l_size, bd_qGround_init, bd_qcheck_rows, bd_qis_row, bd_l_floors, bd_l_over, bd_qfloors, bi_qfloors_0, bd_qcheck_ground, bd_qfloors_of, bd_qnext_rows, bd_qtop, bi_qtop_0, bd_qtop_of, bd_qGround_put, bd_qcheck_spot, bd_qis_spot_of, bd_qis_within, bd_l_jar, bd_l_cell, bd_qGround_eq, gl_0, ↓bnd_ret, ↓bnd_no, ofO_some, Option.bind_some, id, List.getElem?_cons_zero, List.getElem?_cons_succ, List.set_cons_zero, List.set_cons_succ, List.length_cons, List.length_nil, if_true, if_false, Bool.false_eq_true, List.map_cons, List.map_nil, List.cons_append, List.nil_append, List.append_nil, List.replicate_succ, List.replicate_zero, ↓reduceIte, Bool.not_true, Bool.not_false, decide_true, decide_false, Nat.reduceAdd, Nat.reduceLT, Nat.reduceLeDiff, List.length_set, true_and, and_true, Int.cast_ofNat_Int, eq_self, l3, range_row]
      have eg : List.map (fun r => rowT (g r) (r + 1)) (List.range r) ++ [rowT v (r + 1)] = (List.range (r + 1)).map fun x => rowT ((fun x => if x = r then v else g x) x) (x + 1) := by
        rw [← range_snoc]
        congr 1
        · refine List.map_congr_left fun x m => ?_
          have := List.mem_range.mp m
          show _ = rowT (if x = r then v else g x) (x + 1)
          rw [if_neg (by omega)]
        · show _ = [rowT (if r = r then v else g r) (r + 1)]
          rw [if_pos rfl]
      rw [eg]
      refine ⟨s3.set hle (Cl.list (Pln.rangeM fun _ => Pln.row _ _)), fun x => if x = r then v else g x, _, _, jar_set e3, fun x a => ?_, rfl⟩
      show Sm ((if x = r then v else g x) a)
      split
      · exact pv a
      · exact gs x a
  · rintro σ h2 ⟨s2, g, x2, x5, e2, gs, rfl⟩
    simp (config := {maxSteps := 3000000}) (disch := first | assumption | with_unfolding_all exact id rfl | with_unfolding_all exact Nat.le_of_ble_eq_true rfl | omega) only [r_add, r_sub, r_mulL, r_mulR, r_mod, r_fdiv, r_divmod, r_pint, r_pintb, r_abs, r_min2, r_max2, r_lent, r_lenl, r_lens, r_lenr, r_tupl, r_tupt, r_negi, r_trub, r_trui, r_lt, r_le, r_gt, r_ge, r_isb, r_isnb, r_idxt, r_idxl, r_idxs, r_idxr, r_atT, r_at0, r_at1, r_at2, r_ix30, r_ix31, r_ix32, r_mkF, r_mkT, r_itt, r_itl, r_its, r_itr, r_stt, r_stl, r_sts, r_isii, r_isib, r_isit, r_isil, r_isis, r_k1, r_k2, r_k3, r_k4, r_k5, r_k6, r_k7, r_k8, r_k9, r_k10, r_k11, r_k12, r_k13, r_k14, r_k15, r_wi0, r_wi1, r_bin0, r_line, r_frzb, r_frzi, r_frzn, r_frzs, r_ret, r_no, ↓r_bnd, r_newO, r_getO, r_getO_set, r_setO, r_setO_set, r_ite, r_nox, ↓w_es0, ↓w_es1, ↓w_cO0, ↓w_cO1, ↓w_ifs0, ↓w_ifs1, ↓w_var, ↓w_con, ↓w_glob, ↓w_bin, ↓w_neg, ↓w_not, ↓w_and, ↓w_or, ↓w_ite, ↓w_cmp, ↓w_cmp2, ↓w_cmp3, ↓w_eqo, ↓w_tup, ↓w_lst, ↓w_idx, ↓w_slc, ↓w_fld, ↓w_call, ↓w_make, ↓w_meth, ↓w_prim, ↓w_isi, ↓w_bm, ↓w_lc, ↓w_rng, ↓w_enum, ↓w_zip, ↓w_seq, ↓w_gName, ↓w_gs0, ↓w_gs1, ↓w_gTup, ↓w_gTupL, ↓w_gSub, ↓w_gFld, ↓w_ss0, ↓w_ss1, ↓w_expr, ↓w_asg, ↓w_aug, ↓w_sret, ↓w_sif, ↓w_rai, ↓w_pass, ↓w_for, ↓w_runS, r_lineN, r_lentri, r_lenrow, r_tri, r_tri1, r_tri0, r_row, r_row1, r_row0, r_isitri, r_isirow, r_sort3, r_mid, r_n1, r_n0, ↓w_rngN, r_tupr, r_frztri, r_frzrow, ↓w_app0, r_cuttri, r_ittri, r_itrow, r_sttri, r_strow, r_atlast, r_put0, r_put10, r_fld0, r_fld1, r_isgrd, r_clsgrd, r_cutrow, r_eqi, r_nei, r_eqb, ↓w_lc2, ↓r_rng, ↓w_bme, ↓w_app, ↓w_ext, r_sortp, r_zip1, r_zip0, r_sort3, r_eql3, r_allT, r_alll, r_addl, r_addt, bd_qlaw, bd_l_right, bd_l_middles_right, bd_l_dip, bd_qmiddle, bi_qmiddle_0, bi_qmiddle_1, bd_qcheck_number, bd_qis_whole, bd_qmiddle_of, bd_l_is_whole, bd_l_rows, bd_l_size, bd_qGround_init, bd_qcheck_rows, bd_qis_row, bd_l_floors, bd_l_over, bd_qfloors, bi_qfloors_0, bd_qcheck_ground, bd_qfloors_of, bd_qnext_rows, bd_qtop, bi_qtop_0, bd_qtop_of, bd_qGround_put, bd_qcheck_spot, bd_qis_spot_of, bd_qis_within, bd_l_jar, bd_l_cell, bd_qGround_eq, gl_0, ↓bnd_ret, ↓bnd_no, ofO_some, Option.bind_some, id, List.getElem?_cons_zero, List.getElem?_cons_succ, List.set_cons_zero, List.set_cons_succ, List.length_cons, List.length_nil, if_true, if_false, Bool.false_eq_true, List.map_cons, List.map_nil, List.cons_append, List.nil_append, List.append_nil, List.replicate_succ, List.replicate_zero, ↓reduceIte, Bool.not_true, Bool.not_false, decide_true, decide_false, Nat.reduceAdd, Nat.reduceLT, Nat.reduceLeDiff, List.length_set, true_and, and_true, Int.cast_ofNat_Int, eq_self, tri_def]
    exact ⟨_, Pln.fr (Pln.tri _ _) _ _, s2, fun h'' j' m => ⟨g, rfl, gs, j', m⟩⟩
end
end K13

set_option maxHeartbeats 8000000
namespace K13
open PySem Mt
section
variable {n : Nat}
theorem f_check_number (hn : 3 ≤ n) (x : Int) : callS sh n .qcheck_number [.int x] = ret .non := by
  obtain ⟨k, rfl⟩ : ∃ m, n = m + 2 := ⟨n - 2, by omega⟩
  refine call_pure is_qcheck_number rfl ?_
  simp (config := {maxSteps := 3000000}) (disch := first | assumption | with_unfolding_all exact id rfl | with_unfolding_all exact Nat.le_of_ble_eq_true rfl | omega) only [r_add, r_sub, r_mulL, r_mulR, r_mod, r_fdiv, r_divmod, r_pint, r_pintb, r_abs, r_min2, r_max2, r_lent, r_lenl, r_lens, r_lenr, r_tupl, r_tupt, r_negi, r_trub, r_trui, r_lt, r_le, r_gt, r_ge, r_isb, r_isnb, r_idxt, r_idxl, r_idxs, r_idxr, r_atT, r_at0, r_at1, r_at2, r_ix30, r_ix31, r_ix32, r_mkF, r_mkT, r_itt, r_itl, r_its, r_itr, r_stt, r_stl, r_sts, r_isii, r_isib, r_isit, r_isil, r_isis, r_k1, r_k2, r_k3, r_k4, r_k5, r_k6, r_k7, r_k8, r_k9, r_k10, r_k11, r_k12, r_k13, r_k14, r_k15, r_wi0, r_wi1, r_bin0, r_line, r_frzb, r_frzi, r_frzn, r_frzs, r_ret, r_no, ↓r_bnd, r_newO, r_getO, r_getO_set, r_setO, r_setO_set, r_ite, r_nox, ↓w_es0, ↓w_es1, ↓w_cO0, ↓w_cO1, ↓w_ifs0, ↓w_ifs1, ↓w_var, ↓w_con, ↓w_glob, ↓w_bin, ↓w_neg, ↓w_not, ↓w_and, ↓w_or, ↓w_ite, ↓w_cmp, ↓w_cmp2, ↓w_cmp3, ↓w_eqo, ↓w_tup, ↓w_lst, ↓w_idx, ↓w_slc, ↓w_fld, ↓w_call, ↓w_make, ↓w_meth, ↓w_prim, ↓w_isi, ↓w_bm, ↓w_lc, ↓w_rng, ↓w_enum, ↓w_zip, ↓w_seq, ↓w_gName, ↓w_gs0, ↓w_gs1, ↓w_gTup, ↓w_gTupL, ↓w_gSub, ↓w_gFld, ↓w_ss0, ↓w_ss1, ↓w_expr, ↓w_asg, ↓w_aug, ↓w_sret, ↓w_sif, ↓w_rai, ↓w_pass, ↓w_for, ↓w_runS, r_lineN, r_lentri, r_lenrow, r_tri, r_tri1, r_tri0, r_row, r_row1, r_row0, r_isitri, r_isirow, r_sort3, r_mid, r_n1, r_n0, ↓w_rngN, r_tupr, r_frztri, r_frzrow, ↓w_app0, r_cuttri, r_ittri, r_itrow, r_sttri, r_strow, r_atlast, r_put0, r_put10, r_fld0, r_fld1, r_isgrd, r_clsgrd, r_cutrow, r_eqi, r_nei, r_eqb, ↓w_lc2, ↓r_rng, ↓w_bme, ↓w_app, ↓w_ext, r_sortp, r_zip1, r_zip0, r_sort3, r_eql3, r_allT, r_alll, r_addl, r_addt, bd_qlaw, bd_l_right, bd_l_middles_right, bd_l_dip, bd_qmiddle, bi_qmiddle_0, bi_qmiddle_1, bd_qcheck_number, bd_qis_whole, bd_qmiddle_of, bd_l_is_whole, bd_l_rows, bd_l_size, bd_qGround_init, bd_qcheck_rows, bd_qis_row, bd_l_floors, bd_l_over, bd_qfloors, bi_qfloors_0, bd_qcheck_ground, bd_qfloors_of, bd_qnext_rows, bd_qtop, bi_qtop_0, bd_qtop_of, bd_qGround_put, bd_qcheck_spot, bd_qis_spot_of, bd_qis_within, bd_l_jar, bd_l_cell, bd_qGround_eq, gl_0, ↓bnd_ret, ↓bnd_no, ofO_some, Option.bind_some, id, List.getElem?_cons_zero, List.getElem?_cons_succ, List.set_cons_zero, List.set_cons_succ, List.length_cons, List.length_nil, if_true, if_false, Bool.false_eq_true, List.map_cons, List.map_nil, List.cons_append, List.nil_append, List.append_nil, List.replicate_succ, List.replicate_zero, ↓reduceIte, Bool.not_true, Bool.not_false, decide_true, decide_false, Nat.reduceAdd, Nat.reduceLT, Nat.reduceLeDiff, List.length_set, true_and, and_true, Int.cast_ofNat_Int, eq_self, s_qcheck_number, f_is_whole]
theorem f_middle (hn : 4 ≤ n) (a b c : Int) : callS sh n .qmiddle [.int a, .int b, .int c] = ret (.int (mid a b c)) := by
  obtain ⟨k, rfl⟩ : ∃ m, n = m + 2 := ⟨n - 2, by omega⟩
  refine call_pure is_qmiddle rfl ?_
  simp (config := {maxSteps := 3000000}) (disch := first | assumption | with_unfolding_all exact id rfl | with_unfolding_all exact Nat.le_of_ble_eq_true rfl | omega) only [r_add, r_sub, r_mulL, r_mulR, r_mod, r_fdiv, r_divmod, r_pint, r_pintb, r_abs, r_min2, r_max2, r_lent, r_lenl, r_lens, r_lenr, r_tupl, r_tupt, r_negi, r_trub, r_trui, r_lt, r_le, r_gt, r_ge, r_isb, r_isnb, r_idxt, r_idxl, r_idxs, r_idxr, r_atT, r_at0, r_at1, r_at2, r_ix30, r_ix31, r_ix32, r_mkF, r_mkT, r_itt, r_itl, r_its, r_itr, r_stt, r_stl, r_sts, r_isii, r_isib, r_isit, r_isil, r_isis, r_k1, r_k2, r_k3, r_k4, r_k5, r_k6, r_k7, r_k8, r_k9, r_k10, r_k11, r_k12, r_k13, r_k14, r_k15, r_wi0, r_wi1, r_bin0, r_line, r_frzb, r_frzi, r_frzn, r_frzs, r_ret, r_no, ↓r_bnd, r_newO, r_getO, r_getO_set, r_setO, r_setO_set, r_ite, r_nox, ↓w_es0, ↓w_es1, ↓w_cO0, ↓w_cO1, ↓w_ifs0, ↓w_ifs1, ↓w_var, ↓w_con, ↓w_glob, ↓w_bin, ↓w_neg, ↓w_not, ↓w_and, ↓w_or, ↓w_ite, ↓w_cmp, ↓w_cmp2, ↓w_cmp3, ↓w_eqo, ↓w_tup, ↓w_lst, ↓w_idx, ↓w_slc, ↓w_fld, ↓w_call, ↓w_make, ↓w_meth, ↓w_prim, ↓w_isi, ↓w_bm, ↓w_lc, ↓w_rng, ↓w_enum, ↓w_zip, ↓w_seq, ↓w_gName, ↓w_gs0, ↓w_gs1, ↓w_gTup, ↓w_gTupL, ↓w_gSub, ↓w_gFld, ↓w_ss0, ↓w_ss1, ↓w_expr, ↓w_asg, ↓w_aug, ↓w_sret, ↓w_sif, ↓w_rai, ↓w_pass, ↓w_for, ↓w_runS, r_lineN, r_lentri, r_lenrow, r_tri, r_tri1, r_tri0, r_row, r_row1, r_row0, r_isitri, r_isirow, r_sort3, r_mid, r_n1, r_n0, ↓w_rngN, r_tupr, r_frztri, r_frzrow, ↓w_app0, r_cuttri, r_ittri, r_itrow, r_sttri, r_strow, r_atlast, r_put0, r_put10, r_fld0, r_fld1, r_isgrd, r_clsgrd, r_cutrow, r_eqi, r_nei, r_eqb, ↓w_lc2, ↓r_rng, ↓w_bme, ↓w_app, ↓w_ext, r_sortp, r_zip1, r_zip0, r_sort3, r_eql3, r_allT, r_alll, r_addl, r_addt, bd_qlaw, bd_l_right, bd_l_middles_right, bd_l_dip, bd_qmiddle, bi_qmiddle_0, bi_qmiddle_1, bd_qcheck_number, bd_qis_whole, bd_qmiddle_of, bd_l_is_whole, bd_l_rows, bd_l_size, bd_qGround_init, bd_qcheck_rows, bd_qis_row, bd_l_floors, bd_l_over, bd_qfloors, bi_qfloors_0, bd_qcheck_ground, bd_qfloors_of, bd_qnext_rows, bd_qtop, bi_qtop_0, bd_qtop_of, bd_qGround_put, bd_qcheck_spot, bd_qis_spot_of, bd_qis_within, bd_l_jar, bd_l_cell, bd_qGround_eq, gl_0, ↓bnd_ret, ↓bnd_no, ofO_some, Option.bind_some, id, List.getElem?_cons_zero, List.getElem?_cons_succ, List.set_cons_zero, List.set_cons_succ, List.length_cons, List.length_nil, if_true, if_false, Bool.false_eq_true, List.map_cons, List.map_nil, List.cons_append, List.nil_append, List.append_nil, List.replicate_succ, List.replicate_zero, ↓reduceIte, Bool.not_true, Bool.not_false, decide_true, decide_false, Nat.reduceAdd, Nat.reduceLT, Nat.reduceLeDiff, List.length_set, true_and, and_true, Int.cast_ofNat_Int, eq_self, s_qmiddle, r_lineN]
  refine W_forAll (fun σ h => h = [] ∧ ∃ x3 : Option T, σ = [some (.int a), some (.int b), some (.int c), x3]) ?_ ⟨rfl, _, rfl⟩ ?_
  · rintro x m σ h ⟨rfl, x3, rfl⟩
    have : ∃ i : Int, x = .int i := by
      simp only [List.mem_cons, List.mem_nil_iff, or_false] at m
      rcases m with rfl | rfl | rfl <;> exact ⟨_, rfl⟩
    obtain ⟨i, rfl⟩ := this
    simp (config := {maxSteps := 3000000}) (disch := first | assumption | with_unfolding_all exact id rfl | with_unfolding_all exact Nat.le_of_ble_eq_true rfl | omega) only [r_add, r_sub, r_mulL, r_mulR, r_mod, r_fdiv, r_divmod, r_pint, r_pintb, r_abs, r_min2, r_max2, r_lent, r_lenl, r_lens, r_lenr, r_tupl, r_tupt, r_negi, r_trub, r_trui, r_lt, r_le, r_gt, r_ge, r_isb, r_isnb, r_idxt, r_idxl, r_idxs, r_idxr, r_atT, r_at0, r_at1, r_at2, r_ix30, r_ix31, r_ix32, r_mkF, r_mkT, r_itt, r_itl, r_its, r_itr, r_stt, r_stl, r_sts, r_isii, r_isib, r_isit, r_isil, r_isis, r_k1, r_k2, r_k3, r_k4, r_k5, r_k6, r_k7, r_k8, r_k9, r_k10, r_k11, r_k12, r_k13, r_k14, r_k15, r_wi0, r_wi1, r_bin0, r_line, r_frzb, r_frzi, r_frzn, r_frzs, r_ret, r_no, ↓r_bnd, r_newO, r_getO, r_getO_set, r_setO, r_setO_set, r_ite, r_nox, ↓w_es0, ↓w_es1, ↓w_cO0, ↓w_cO1, ↓w_ifs0, ↓w_ifs1, ↓w_var, ↓w_con, ↓w_glob, ↓w_bin, ↓w_neg, ↓w_not, ↓w_and, ↓w_or, ↓w_ite, ↓w_cmp, ↓w_cmp2, ↓w_cmp3, ↓w_eqo, ↓w_tup, ↓w_lst, ↓w_idx, ↓w_slc, ↓w_fld, ↓w_call, ↓w_make, ↓w_meth, ↓w_prim, ↓w_isi, ↓w_bm, ↓w_lc, ↓w_rng, ↓w_enum, ↓w_zip, ↓w_seq, ↓w_gName, ↓w_gs0, ↓w_gs1, ↓w_gTup, ↓w_gTupL, ↓w_gSub, ↓w_gFld, ↓w_ss0, ↓w_ss1, ↓w_expr, ↓w_asg, ↓w_aug, ↓w_sret, ↓w_sif, ↓w_rai, ↓w_pass, ↓w_for, ↓w_runS, r_lineN, r_lentri, r_lenrow, r_tri, r_tri1, r_tri0, r_row, r_row1, r_row0, r_isitri, r_isirow, r_sort3, r_mid, r_n1, r_n0, ↓w_rngN, r_tupr, r_frztri, r_frzrow, ↓w_app0, r_cuttri, r_ittri, r_itrow, r_sttri, r_strow, r_atlast, r_put0, r_put10, r_fld0, r_fld1, r_isgrd, r_clsgrd, r_cutrow, r_eqi, r_nei, r_eqb, ↓w_lc2, ↓r_rng, ↓w_bme, ↓w_app, ↓w_ext, r_sortp, r_zip1, r_zip0, r_sort3, r_eql3, r_allT, r_alll, r_addl, r_addt, bd_qlaw, bd_l_right, bd_l_middles_right, bd_l_dip, bd_qmiddle, bi_qmiddle_0, bi_qmiddle_1, bd_qcheck_number, bd_qis_whole, bd_qmiddle_of, bd_l_is_whole, bd_l_rows, bd_l_size, bd_qGround_init, bd_qcheck_rows, bd_qis_row, bd_l_floors, bd_l_over, bd_qfloors, bi_qfloors_0, bd_qcheck_ground, bd_qfloors_of, bd_qnext_rows, bd_qtop, bi_qtop_0, bd_qtop_of, bd_qGround_put, bd_qcheck_spot, bd_qis_spot_of, bd_qis_within, bd_l_jar, bd_l_cell, bd_qGround_eq, gl_0, ↓bnd_ret, ↓bnd_no, ofO_some, Option.bind_some, id, List.getElem?_cons_zero, List.getElem?_cons_succ, List.set_cons_zero, List.set_cons_succ, List.length_cons, List.length_nil, if_true, if_false, Bool.false_eq_true, List.map_cons, List.map_nil, List.cons_append, List.nil_append, List.append_nil, List.replicate_succ, List.replicate_zero, ↓reduceIte, Bool.not_true, Bool.not_false, decide_true, decide_false, Nat.reduceAdd, Nat.reduceLT, Nat.reduceLeDiff, List.length_set, true_and, and_true, Int.cast_ofNat_Int, eq_self, f_check_number]
    exact ⟨_, rfl⟩
  · rintro σ h ⟨rfl, x3, rfl⟩
    simp (config := {maxSteps := 3000000}) (disch := first | assumption | with_unfolding_all exact id rfl | with_unfolding_all exact Nat.le_of_ble_eq_true rfl | omega) only [r_add, r_sub, r_mulL, r_mulR, r_mod, r_fdiv, r_divmod, r_pint, r_pintb, r_abs, r_min2, r_max2, r_lent, r_lenl, r_lens, r_lenr, r_tupl, r_tupt, r_negi, r_trub, r_trui, r_lt, r_le, r_gt, r_ge, r_isb, r_isnb, r_idxt, r_idxl, r_idxs, r_idxr, r_atT, r_at0, r_at1, r_at2, r_ix30, r_ix31, r_ix32, r_mkF, r_mkT, r_itt, r_itl, r_its, r_itr, r_stt, r_stl, r_sts, r_isii, r_isib, r_isit, r_isil, r_isis, r_k1, r_k2, r_k3, r_k4, r_k5, r_k6, r_k7, r_k8, r_k9, r_k10, r_k11, r_k12, r_k13, r_k14, r_k15, r_wi0, r_wi1, r_bin0, r_line, r_frzb, r_frzi, r_frzn, r_frzs, r_ret, r_no, ↓r_bnd, r_newO, r_getO, r_getO_set, r_setO, r_setO_set, r_ite, r_nox, ↓w_es0, ↓w_es1, ↓w_cO0, ↓w_cO1, ↓w_ifs0, ↓w_ifs1, ↓w_var, ↓w_con, ↓w_glob, ↓w_bin, ↓w_neg, ↓w_not, ↓w_and, ↓w_or, ↓w_ite, ↓w_cmp, ↓w_cmp2, ↓w_cmp3, ↓w_eqo, ↓w_tup, ↓w_lst, ↓w_idx, ↓w_slc, ↓w_fld, ↓w_call, ↓w_make, ↓w_meth, ↓w_prim, ↓w_isi, ↓w_bm, ↓w_lc, ↓w_rng, ↓w_enum, ↓w_zip, ↓w_seq, ↓w_gName, ↓w_gs0, ↓w_gs1, ↓w_gTup, ↓w_gTupL, ↓w_gSub, ↓w_gFld, ↓w_ss0, ↓w_ss1, ↓w_expr, ↓w_asg, ↓w_aug, ↓w_sret, ↓w_sif, ↓w_rai, ↓w_pass, ↓w_for, ↓w_runS, r_lineN, r_lentri, r_lenrow, r_tri, r_tri1, r_tri0, r_row, r_row1, r_row0, r_isitri, r_isirow, r_sort3, r_mid, r_n1, r_n0, ↓w_rngN, r_tupr, r_frztri, r_frzrow, ↓w_app0, r_cuttri, r_ittri, r_itrow, r_sttri, r_strow, r_atlast, r_put0, r_put10, r_fld0, r_fld1, r_isgrd, r_clsgrd, r_cutrow, r_eqi, r_nei, r_eqb, ↓w_lc2, ↓r_rng, ↓w_bme, ↓w_app, ↓w_ext, r_sortp, r_zip1, r_zip0, r_sort3, r_eql3, r_allT, r_alll, r_addl, r_addt, bd_qlaw, bd_l_right, bd_l_middles_right, bd_l_dip, bd_qmiddle, bi_qmiddle_0, bi_qmiddle_1, bd_qcheck_number, bd_qis_whole, bd_qmiddle_of, bd_l_is_whole, bd_l_rows, bd_l_size, bd_qGround_init, bd_qcheck_rows, bd_qis_row, bd_l_floors, bd_l_over, bd_qfloors, bi_qfloors_0, bd_qcheck_ground, bd_qfloors_of, bd_qnext_rows, bd_qtop, bi_qtop_0, bd_qtop_of, bd_qGround_put, bd_qcheck_spot, bd_qis_spot_of, bd_qis_within, bd_l_jar, bd_l_cell, bd_qGround_eq, gl_0, ↓bnd_ret, ↓bnd_no, ofO_some, Option.bind_some, id, List.getElem?_cons_zero, List.getElem?_cons_succ, List.set_cons_zero, List.set_cons_succ, List.length_cons, List.length_nil, if_true, if_false, Bool.false_eq_true, List.map_cons, List.map_nil, List.cons_append, List.nil_append, List.append_nil, List.replicate_succ, List.replicate_zero, ↓reduceIte, Bool.not_true, Bool.not_false, decide_true, decide_false, Nat.reduceAdd, Nat.reduceLT, Nat.reduceLeDiff, List.length_set, true_and, and_true, Int.cast_ofNat_Int, eq_self, f_middle_of]
theorem f_lwhole (hn : 2 ≤ n) (x : Int) : callS sh n .l_is_whole [.int x] = ret (.bl true) := by
  obtain ⟨k, rfl⟩ : ∃ m, n = m + 2 := ⟨n - 2, by omega⟩
  refine call_pure is_l_is_whole rfl ?_
  simp (config := {maxSteps := 3000000}) (disch := first | assumption | with_unfolding_all exact id rfl | with_unfolding_all exact Nat.le_of_ble_eq_true rfl | omega) only [r_add, r_sub, r_mulL, r_mulR, r_mod, r_fdiv, r_divmod, r_pint, r_pintb, r_abs, r_min2, r_max2, r_lent, r_lenl, r_lens, r_lenr, r_tupl, r_tupt, r_negi, r_trub, r_trui, r_lt, r_le, r_gt, r_ge, r_isb, r_isnb, r_idxt, r_idxl, r_idxs, r_idxr, r_atT, r_at0, r_at1, r_at2, r_ix30, r_ix31, r_ix32, r_mkF, r_mkT, r_itt, r_itl, r_its, r_itr, r_stt, r_stl, r_sts, r_isii, r_isib, r_isit, r_isil, r_isis, r_k1, r_k2, r_k3, r_k4, r_k5, r_k6, r_k7, r_k8, r_k9, r_k10, r_k11, r_k12, r_k13, r_k14, r_k15, r_wi0, r_wi1, r_bin0, r_line, r_frzb, r_frzi, r_frzn, r_frzs, r_ret, r_no, ↓r_bnd, r_newO, r_getO, r_getO_set, r_setO, r_setO_set, r_ite, r_nox, ↓w_es0, ↓w_es1, ↓w_cO0, ↓w_cO1, ↓w_ifs0, ↓w_ifs1, ↓w_var, ↓w_con, ↓w_glob, ↓w_bin, ↓w_neg, ↓w_not, ↓w_and, ↓w_or, ↓w_ite, ↓w_cmp, ↓w_cmp2, ↓w_cmp3, ↓w_eqo, ↓w_tup, ↓w_lst, ↓w_idx, ↓w_slc, ↓w_fld, ↓w_call, ↓w_make, ↓w_meth, ↓w_prim, ↓w_isi, ↓w_bm, ↓w_lc, ↓w_rng, ↓w_enum, ↓w_zip, ↓w_seq, ↓w_gName, ↓w_gs0, ↓w_gs1, ↓w_gTup, ↓w_gTupL, ↓w_gSub, ↓w_gFld, ↓w_ss0, ↓w_ss1, ↓w_expr, ↓w_asg, ↓w_aug, ↓w_sret, ↓w_sif, ↓w_rai, ↓w_pass, ↓w_for, ↓w_runS, r_lineN, r_lentri, r_lenrow, r_tri, r_tri1, r_tri0, r_row, r_row1, r_row0, r_isitri, r_isirow, r_sort3, r_mid, r_n1, r_n0, ↓w_rngN, r_tupr, r_frztri, r_frzrow, ↓w_app0, r_cuttri, r_ittri, r_itrow, r_sttri, r_strow, r_atlast, r_put0, r_put10, r_fld0, r_fld1, r_isgrd, r_clsgrd, r_cutrow, r_eqi, r_nei, r_eqb, ↓w_lc2, ↓r_rng, ↓w_bme, ↓w_app, ↓w_ext, r_sortp, r_zip1, r_zip0, r_sort3, r_eql3, r_allT, r_alll, r_addl, r_addt, bd_qlaw, bd_l_right, bd_l_middles_right, bd_l_dip, bd_qmiddle, bi_qmiddle_0, bi_qmiddle_1, bd_qcheck_number, bd_qis_whole, bd_qmiddle_of, bd_l_is_whole, bd_l_rows, bd_l_size, bd_qGround_init, bd_qcheck_rows, bd_qis_row, bd_l_floors, bd_l_over, bd_qfloors, bi_qfloors_0, bd_qcheck_ground, bd_qfloors_of, bd_qnext_rows, bd_qtop, bi_qtop_0, bd_qtop_of, bd_qGround_put, bd_qcheck_spot, bd_qis_spot_of, bd_qis_within, bd_l_jar, bd_l_cell, bd_qGround_eq, gl_0, ↓bnd_ret, ↓bnd_no, ofO_some, Option.bind_some, id, List.getElem?_cons_zero, List.getElem?_cons_succ, List.set_cons_zero, List.set_cons_succ, List.length_cons, List.length_nil, if_true, if_false, Bool.false_eq_true, List.map_cons, List.map_nil, List.cons_append, List.nil_append, List.append_nil, List.replicate_succ, List.replicate_zero, ↓reduceIte, Bool.not_true, Bool.not_false, decide_true, decide_false, Nat.reduceAdd, Nat.reduceLT, Nat.reduceLeDiff, List.length_set, true_and, and_true, Int.cast_ofNat_Int, eq_self, s_l_is_whole]
theorem dats_range (n : Nat) (v : Nat → T) (h : ∀ k, T.dat n (v k) = true) : ∀ l : List Nat, T.dats n (l.map v) = true
  | [] => by cases n <;> rfl
  | k :: l => by
    show (T.dat n (v k) && T.dats n (l.map v)) = true
    rw [h k, dats_range n v h l]; rfl
theorem dat_row (g : Nat → Int) (n : Nat) : T.dat 63 (rowT g n) = true := by
  show T.dats 62 ((List.range n).map fun a => T.int (g a)) = true
  exact dats_range 62 _ (fun _ => rfl) _
theorem dat_tri (w : Nat) (g : Nat → Nat → Int) : T.dat 64 (tri w g) = true := by
  show T.dats 63 ((List.range w).map fun r => rowT (g r) (r + 1)) = true
  exact dats_range 63 _ (fun r => dat_row _ _) _
theorem f_eq (hn : 2 ≤ n) (w : Nat) (g : Nat → Nat → Int) : callS sh n .qGround_eq [grd w g, grd w g] = ret (.bl true) := by
  obtain ⟨k, rfl⟩ : ∃ m, n = m + 2 := ⟨n - 2, by omega⟩
  refine call_pure is_qGround_eq (Pln.args (Pln.consA (Pln.grd _ _) (Pln.consA (Pln.grd _ _) Pln.nilA))) ?_
  have d := dat_tri w g
  simp (config := {maxSteps := 3000000}) (disch := first | assumption | with_unfolding_all exact id rfl | with_unfolding_all exact Nat.le_of_ble_eq_true rfl | omega) only [r_add, r_sub, r_mulL, r_mulR, r_mod, r_fdiv, r_divmod, r_pint, r_pintb, r_abs, r_min2, r_max2, r_lent, r_lenl, r_lens, r_lenr, r_tupl, r_tupt, r_negi, r_trub, r_trui, r_lt, r_le, r_gt, r_ge, r_isb, r_isnb, r_idxt, r_idxl, r_idxs, r_idxr, r_atT, r_at0, r_at1, r_at2, r_ix30, r_ix31, r_ix32, r_mkF, r_mkT, r_itt, r_itl, r_its, r_itr, r_stt, r_stl, r_sts, r_isii, r_isib, r_isit, r_isil, r_isis, r_k1, r_k2, r_k3, r_k4, r_k5, r_k6, r_k7, r_k8, r_k9, r_k10, r_k11, r_k12, r_k13, r_k14, r_k15, r_wi0, r_wi1, r_bin0, r_line, r_frzb, r_frzi, r_frzn, r_frzs, r_ret, r_no, ↓r_bnd, r_newO, r_getO, r_getO_set, r_setO, r_setO_set, r_ite, r_nox, ↓w_es0, ↓w_es1, ↓w_cO0, ↓w_cO1, ↓w_ifs0, ↓w_ifs1, ↓w_var, ↓w_con, ↓w_glob, ↓w_bin, ↓w_neg, ↓w_not, ↓w_and, ↓w_or, ↓w_ite, ↓w_cmp, ↓w_cmp2, ↓w_cmp3, ↓w_eqo, ↓w_tup, ↓w_lst, ↓w_idx, ↓w_slc, ↓w_fld, ↓w_call, ↓w_make, ↓w_meth, ↓w_prim, ↓w_isi, ↓w_bm, ↓w_lc, ↓w_rng, ↓w_enum, ↓w_zip, ↓w_seq, ↓w_gName, ↓w_gs0, ↓w_gs1, ↓w_gTup, ↓w_gTupL, ↓w_gSub, ↓w_gFld, ↓w_ss0, ↓w_ss1, ↓w_expr, ↓w_asg, ↓w_aug, ↓w_sret, ↓w_sif, ↓w_rai, ↓w_pass, ↓w_for, ↓w_runS, r_lineN, r_lentri, r_lenrow, r_tri, r_tri1, r_tri0, r_row, r_row1, r_row0, r_isitri, r_isirow, r_sort3, r_mid, r_n1, r_n0, ↓w_rngN, r_tupr, r_frztri, r_frzrow, ↓w_app0, r_cuttri, r_ittri, r_itrow, r_sttri, r_strow, r_atlast, r_put0, r_put10, r_fld0, r_fld1, r_isgrd, r_clsgrd, r_cutrow, r_eqi, r_nei, r_eqb, ↓w_lc2, ↓r_rng, ↓w_bme, ↓w_app, ↓w_ext, r_sortp, r_zip1, r_zip0, r_sort3, r_eql3, r_allT, r_alll, r_addl, r_addt, bd_qlaw, bd_l_right, bd_l_middles_right, bd_l_dip, bd_qmiddle, bi_qmiddle_0, bi_qmiddle_1, bd_qcheck_number, bd_qis_whole, bd_qmiddle_of, bd_l_is_whole, bd_l_rows, bd_l_size, bd_qGround_init, bd_qcheck_rows, bd_qis_row, bd_l_floors, bd_l_over, bd_qfloors, bi_qfloors_0, bd_qcheck_ground, bd_qfloors_of, bd_qnext_rows, bd_qtop, bi_qtop_0, bd_qtop_of, bd_qGround_put, bd_qcheck_spot, bd_qis_spot_of, bd_qis_within, bd_l_jar, bd_l_cell, bd_qGround_eq, gl_0, ↓bnd_ret, ↓bnd_no, ofO_some, Option.bind_some, id, List.getElem?_cons_zero, List.getElem?_cons_succ, List.set_cons_zero, List.set_cons_succ, List.length_cons, List.length_nil, if_true, if_false, Bool.false_eq_true, List.map_cons, List.map_nil, List.cons_append, List.nil_append, List.append_nil, List.replicate_succ, List.replicate_zero, ↓reduceIte, Bool.not_true, Bool.not_false, decide_true, decide_false, Nat.reduceAdd, Nat.reduceLT, Nat.reduceLeDiff, List.length_set, true_and, and_true, Int.cast_ofNat_Int, eq_self, s_qGround_eq, eq_same]
theorem f_put (hn : 8 ≤ n) {w x y : Nat} (hw : w ≤ 12) (hx : x < w) (hy : y ≤ x) (g : Nat → Nat → Int) (z : Int) : callS sh n .qGround_put [grd w g, .tup [.int x, .int y], .int z] = ret (grd w (putg g x y z)) := by
  obtain ⟨k, rfl⟩ : ∃ m, n = m + 2 := ⟨n - 2, by omega⟩
  refine call_pure is_qGround_put (Pln.args (Pln.consA (Pln.grd _ _) (Pln.consA (fun _ => rfl) (Pln.consA (Pln.int _) Pln.nilA)))) ?_
  have l1 := line1000
  have g1 : ok w ((x : Int), (y : Int)) = true := by
    unfold ok
    rw [decide_eq_true_eq]
    show (0 ≤ (x : Int) ∧ (x : Int) ≤ w - 1) ∧ 0 ≤ (y : Int) ∧ (y : Int) ≤ x
    omega
  have a1 : ((List.range y).map fun a => T.int (g x a)).length + [T.int z].length ≤ 1000 := by rw [len_range]; show y + 1 ≤ 1000; omega
  have a2 : ((List.range y).map (fun a => T.int (g x a)) ++ [T.int z]).length + ((List.range (x + 1 - y - 1)).map fun i => T.int (g x (y + 1 + i))).length ≤ 1000 := by
    rw [List.length_append, len_range, len_range]; show y + 1 + (x + 1 - y - 1) ≤ 1000; omega
  have a3 : ∀ t : T, ((List.range x).map fun r => rowT (g r) (r + 1)).length + [t].length ≤ 1000 := fun t => by rw [len_range]; show x + 1 ≤ 1000; omega
  have a4 : ∀ t : T, ((List.range x).map (fun r => rowT (g r) (r + 1)) ++ [t]).length + ((List.range (w - x - 1)).map fun i => rowT (g (x + 1 + i)) (x + 1 + i + 1)).length ≤ 1000 := fun t => by
    rw [List.length_append, len_range, len_range]; show x + 1 + (w - x - 1) ≤ 1000; omega
  simp (config := {maxSteps := 3000000}) (disch := first | assumption | exact a3 _ | exact a4 _ | with_unfolding_all exact id rfl | with_unfolding_all exact Nat.le_of_ble_eq_true rfl | omega) only [r_add, r_sub, r_mulL, r_mulR, r_mod, r_fdiv, r_divmod, r_pint, r_pintb, r_abs, r_min2, r_max2, r_lent, r_lenl, r_lens, r_lenr, r_tupl, r_tupt, r_negi, r_trub, r_trui, r_lt, r_le, r_gt, r_ge, r_isb, r_isnb, r_idxt, r_idxl, r_idxs, r_idxr, r_atT, r_at0, r_at1, r_at2, r_ix30, r_ix31, r_ix32, r_mkF, r_mkT, r_itt, r_itl, r_its, r_itr, r_stt, r_stl, r_sts, r_isii, r_isib, r_isit, r_isil, r_isis, r_k1, r_k2, r_k3, r_k4, r_k5, r_k6, r_k7, r_k8, r_k9, r_k10, r_k11, r_k12, r_k13, r_k14, r_k15, r_wi0, r_wi1, r_bin0, r_line, r_frzb, r_frzi, r_frzn, r_frzs, r_ret, r_no, ↓r_bnd, r_newO, r_getO, r_getO_set, r_setO, r_setO_set, r_ite, r_nox, ↓w_es0, ↓w_es1, ↓w_cO0, ↓w_cO1, ↓w_ifs0, ↓w_ifs1, ↓w_var, ↓w_con, ↓w_glob, ↓w_bin, ↓w_neg, ↓w_not, ↓w_and, ↓w_or, ↓w_ite, ↓w_cmp, ↓w_cmp2, ↓w_cmp3, ↓w_eqo, ↓w_tup, ↓w_lst, ↓w_idx, ↓w_slc, ↓w_fld, ↓w_call, ↓w_make, ↓w_meth, ↓w_prim, ↓w_isi, ↓w_bm, ↓w_lc, ↓w_rng, ↓w_enum, ↓w_zip, ↓w_seq, ↓w_gName, ↓w_gs0, ↓w_gs1, ↓w_gTup, ↓w_gTupL, ↓w_gSub, ↓w_gFld, ↓w_ss0, ↓w_ss1, ↓w_expr, ↓w_asg, ↓w_aug, ↓w_sret, ↓w_sif, ↓w_rai, ↓w_pass, ↓w_for, ↓w_runS, r_lineN, r_lentri, r_lenrow, r_tri, r_tri1, r_tri0, r_row, r_row1, r_row0, r_isitri, r_isirow, r_sort3, r_mid, r_n1, r_n0, ↓w_rngN, r_tupr, r_frztri, r_frzrow, ↓w_app0, r_cuttri, r_ittri, r_itrow, r_sttri, r_strow, r_atlast, r_put0, r_put10, r_fld0, r_fld1, r_isgrd, r_clsgrd, r_cutrow, r_eqi, r_nei, r_eqb, ↓w_lc2, ↓r_rng, ↓w_bme, ↓w_app, ↓w_ext, r_sortp, r_zip1, r_zip0, r_sort3, r_eql3, r_allT, r_alll, r_addl, r_addt, bd_qlaw, bd_l_right, bd_l_middles_right, bd_l_dip, bd_qmiddle, bi_qmiddle_0, bi_qmiddle_1, bd_qcheck_number, bd_qis_whole, bd_qmiddle_of, bd_l_is_whole, bd_l_rows, bd_l_size, bd_qGround_init, bd_qcheck_rows, bd_qis_row, bd_l_floors, bd_l_over, bd_qfloors, bi_qfloors_0, bd_qcheck_ground, bd_qfloors_of, bd_qnext_rows, bd_qtop, bi_qtop_0, bd_qtop_of, bd_qGround_put, bd_qcheck_spot, bd_qis_spot_of, bd_qis_within, bd_l_jar, bd_l_cell, bd_qGround_eq, gl_0, ↓bnd_ret, ↓bnd_no, ofO_some, Option.bind_some, id, List.getElem?_cons_zero, List.getElem?_cons_succ, List.set_cons_zero, List.set_cons_succ, List.length_cons, List.length_nil, if_true, if_false, Bool.false_eq_true, List.map_cons, List.map_nil, List.cons_append, List.nil_append, List.append_nil, List.replicate_succ, List.replicate_zero, ↓reduceIte, Bool.not_true, Bool.not_false, decide_true, decide_false, Nat.reduceAdd, Nat.reduceLT, Nat.reduceLeDiff, List.length_set, true_and, and_true, Int.cast_ofNat_Int, eq_self, s_qGround_put, f_check_spot, f_check_number, x_triTo, x_triFrom, x_rowTo, x_rowFrom, x_addt, r_lineN]
  rw [put_tri g z hx hy]
  simp (config := {maxSteps := 3000000}) (disch := first | assumption | with_unfolding_all exact id rfl | with_unfolding_all exact Nat.le_of_ble_eq_true rfl | omega) only [r_add, r_sub, r_mulL, r_mulR, r_mod, r_fdiv, r_divmod, r_pint, r_pintb, r_abs, r_min2, r_max2, r_lent, r_lenl, r_lens, r_lenr, r_tupl, r_tupt, r_negi, r_trub, r_trui, r_lt, r_le, r_gt, r_ge, r_isb, r_isnb, r_idxt, r_idxl, r_idxs, r_idxr, r_atT, r_at0, r_at1, r_at2, r_ix30, r_ix31, r_ix32, r_mkF, r_mkT, r_itt, r_itl, r_its, r_itr, r_stt, r_stl, r_sts, r_isii, r_isib, r_isit, r_isil, r_isis, r_k1, r_k2, r_k3, r_k4, r_k5, r_k6, r_k7, r_k8, r_k9, r_k10, r_k11, r_k12, r_k13, r_k14, r_k15, r_wi0, r_wi1, r_bin0, r_line, r_frzb, r_frzi, r_frzn, r_frzs, r_ret, r_no, ↓r_bnd, r_newO, r_getO, r_getO_set, r_setO, r_setO_set, r_ite, r_nox, ↓w_es0, ↓w_es1, ↓w_cO0, ↓w_cO1, ↓w_ifs0, ↓w_ifs1, ↓w_var, ↓w_con, ↓w_glob, ↓w_bin, ↓w_neg, ↓w_not, ↓w_and, ↓w_or, ↓w_ite, ↓w_cmp, ↓w_cmp2, ↓w_cmp3, ↓w_eqo, ↓w_tup, ↓w_lst, ↓w_idx, ↓w_slc, ↓w_fld, ↓w_call, ↓w_make, ↓w_meth, ↓w_prim, ↓w_isi, ↓w_bm, ↓w_lc, ↓w_rng, ↓w_enum, ↓w_zip, ↓w_seq, ↓w_gName, ↓w_gs0, ↓w_gs1, ↓w_gTup, ↓w_gTupL, ↓w_gSub, ↓w_gFld, ↓w_ss0, ↓w_ss1, ↓w_expr, ↓w_asg, ↓w_aug, ↓w_sret, ↓w_sif, ↓w_rai, ↓w_pass, ↓w_for, ↓w_runS, r_lineN, r_lentri, r_lenrow, r_tri, r_tri1, r_tri0, r_row, r_row1, r_row0, r_isitri, r_isirow, r_sort3, r_mid, r_n1, r_n0, ↓w_rngN, r_tupr, r_frztri, r_frzrow, ↓w_app0, r_cuttri, r_ittri, r_itrow, r_sttri, r_strow, r_atlast, r_put0, r_put10, r_fld0, r_fld1, r_isgrd, r_clsgrd, r_cutrow, r_eqi, r_nei, r_eqb, ↓w_lc2, ↓r_rng, ↓w_bme, ↓w_app, ↓w_ext, r_sortp, r_zip1, r_zip0, r_sort3, r_eql3, r_allT, r_alll, r_addl, r_addt, bd_qlaw, bd_l_right, bd_l_middles_right, bd_l_dip, bd_qmiddle, bi_qmiddle_0, bi_qmiddle_1, bd_qcheck_number, bd_qis_whole, bd_qmiddle_of, bd_l_is_whole, bd_l_rows, bd_l_size, bd_qGround_init, bd_qcheck_rows, bd_qis_row, bd_l_floors, bd_l_over, bd_qfloors, bi_qfloors_0, bd_qcheck_ground, bd_qfloors_of, bd_qnext_rows, bd_qtop, bi_qtop_0, bd_qtop_of, bd_qGround_put, bd_qcheck_spot, bd_qis_spot_of, bd_qis_within, bd_l_jar, bd_l_cell, bd_qGround_eq, gl_0, ↓bnd_ret, ↓bnd_no, ofO_some, Option.bind_some, id, List.getElem?_cons_zero, List.getElem?_cons_succ, List.set_cons_zero, List.set_cons_succ, List.length_cons, List.length_nil, if_true, if_false, Bool.false_eq_true, List.map_cons, List.map_nil, List.cons_append, List.nil_append, List.append_nil, List.replicate_succ, List.replicate_zero, ↓reduceIte, Bool.not_true, Bool.not_false, decide_true, decide_false, Nat.reduceAdd, Nat.reduceLT, Nat.reduceLeDiff, List.length_set, true_and, and_true, Int.cast_ofNat_Int, eq_self, f_make]
  exact Pln.fr (Pln.grd _ _) _ _
end
end K13

set_option maxHeartbeats 8000000
namespace K13
open PySem Mt
section
variable {n : Nat}
theorem reach4 {i : Int} (h0 : 0 ≤ i) (h1 : i < 4) : ∃ R : Int, L2.atI [T.int 1, T.int 2, T.int 50, T.int 1000000000000000000000000000000000000000] i = some (.int R) ∧ 1 ≤ R ∧ R ≤ 1000000000000000000000000000000000000000 := by
  obtain ⟨j, rfl⟩ : ∃ j : Nat, i = j := ⟨i.toNat, by omega⟩
  rcases (by omega : j = 0 ∨ j = 1 ∨ j = 2 ∨ j = 3) with rfl | rfl | rfl | rfl
  · exact ⟨1, L2.atI_nat rfl, by decide, by decide⟩
  · exact ⟨2, L2.atI_nat rfl, by decide, by decide⟩
  · exact ⟨50, L2.atI_nat rfl, by decide, by decide⟩
  · exact ⟨_, L2.atI_nat rfl, by decide, by decide⟩
theorem three_ints {ys : List T} (l : ys.length = 3) (h : ∀ y ∈ ys, ∃ i : Int, y = .int i) : ∃ a b c : Int, ys = [.int a, .int b, .int c] := by
  match ys, l with
  | [x, y, z], _ =>
    obtain ⟨a, rfl⟩ := h x (by simp)
    obtain ⟨b, rfl⟩ := h y (by simp)
    obtain ⟨c, rfl⟩ := h z (by simp)
    exact ⟨a, b, c, rfl⟩
theorem f_middles {h : Sto} {n0 : Nat} (j : Jr h n0) (hn : 6 ≤ n) : W (callS sh n .l_middles_right [.ref n0]) h fun v h' => v = .bl true ∧ Jr h' n0 ∧ Mo n0 h h' := by
  obtain ⟨k, rfl⟩ : ∃ m, n = m + 2 := ⟨n - 2, by omega⟩
  refine call_sv is_l_middles_right j ?_
  have ll := line1000
  simp (config := {maxSteps := 3000000}) (disch := first | assumption | with_unfolding_all exact id rfl | with_unfolding_all exact Nat.le_of_ble_eq_true rfl | omega) only [r_add, r_sub, r_mulL, r_mulR, r_mod, r_fdiv, r_divmod, r_pint, r_pintb, r_abs, r_min2, r_max2, r_lent, r_lenl, r_lens, r_lenr, r_tupl, r_tupt, r_negi, r_trub, r_trui, r_lt, r_le, r_gt, r_ge, r_isb, r_isnb, r_idxt, r_idxl, r_idxs, r_idxr, r_atT, r_at0, r_at1, r_at2, r_ix30, r_ix31, r_ix32, r_mkF, r_mkT, r_itt, r_itl, r_its, r_itr, r_stt, r_stl, r_sts, r_isii, r_isib, r_isit, r_isil, r_isis, r_k1, r_k2, r_k3, r_k4, r_k5, r_k6, r_k7, r_k8, r_k9, r_k10, r_k11, r_k12, r_k13, r_k14, r_k15, r_wi0, r_wi1, r_bin0, r_line, r_frzb, r_frzi, r_frzn, r_frzs, r_ret, r_no, ↓r_bnd, r_newO, r_getO, r_getO_set, r_setO, r_setO_set, r_ite, r_nox, ↓w_es0, ↓w_es1, ↓w_cO0, ↓w_cO1, ↓w_ifs0, ↓w_ifs1, ↓w_var, ↓w_con, ↓w_glob, ↓w_bin, ↓w_neg, ↓w_not, ↓w_and, ↓w_or, ↓w_ite, ↓w_cmp, ↓w_cmp2, ↓w_cmp3, ↓w_eqo, ↓w_tup, ↓w_lst, ↓w_idx, ↓w_slc, ↓w_fld, ↓w_call, ↓w_make, ↓w_meth, ↓w_prim, ↓w_isi, ↓w_bm, ↓w_lc, ↓w_rng, ↓w_enum, ↓w_zip, ↓w_seq, ↓w_gName, ↓w_gs0, ↓w_gs1, ↓w_gTup, ↓w_gTupL, ↓w_gSub, ↓w_gFld, ↓w_ss0, ↓w_ss1, ↓w_expr, ↓w_asg, ↓w_aug, ↓w_sret, ↓w_sif, ↓w_rai, ↓w_pass, ↓w_for, ↓w_runS, r_lineN, r_lentri, r_lenrow, r_tri, r_tri1, r_tri0, r_row, r_row1, r_row0, r_isitri, r_isirow, r_sort3, r_mid, r_n1, r_n0, ↓w_rngN, r_tupr, r_frztri, r_frzrow, ↓w_app0, r_cuttri, r_ittri, r_itrow, r_sttri, r_strow, r_atlast, r_put0, r_put10, r_fld0, r_fld1, r_isgrd, r_clsgrd, r_cutrow, r_eqi, r_nei, r_eqb, ↓w_lc2, ↓r_rng, ↓w_bme, ↓w_app, ↓w_ext, r_sortp, r_zip1, r_zip0, r_sort3, r_eql3, r_allT, r_alll, r_addl, r_addt, bd_qlaw, bd_l_right, bd_l_middles_right, bd_l_dip, bd_qmiddle, bi_qmiddle_0, bi_qmiddle_1, bd_qcheck_number, bd_qis_whole, bd_qmiddle_of, bd_l_is_whole, bd_l_rows, bd_l_size, bd_qGround_init, bd_qcheck_rows, bd_qis_row, bd_l_floors, bd_l_over, bd_qfloors, bi_qfloors_0, bd_qcheck_ground, bd_qfloors_of, bd_qnext_rows, bd_qtop, bi_qtop_0, bd_qtop_of, bd_qGround_put, bd_qcheck_spot, bd_qis_spot_of, bd_qis_within, bd_l_jar, bd_l_cell, bd_qGround_eq, gl_0, ↓bnd_ret, ↓bnd_no, ofO_some, Option.bind_some, id, List.getElem?_cons_zero, List.getElem?_cons_succ, List.set_cons_zero, List.set_cons_succ, List.length_cons, List.length_nil, if_true, if_false, Bool.false_eq_true, List.map_cons, List.map_nil, List.cons_append, List.nil_append, List.append_nil, List.replicate_succ, List.replicate_zero, ↓reduceIte, Bool.not_true, Bool.not_false, decide_true, decide_false, Nat.reduceAdd, Nat.reduceLT, Nat.reduceLeDiff, List.length_set, true_and, and_true, Int.cast_ofNat_Int, eq_self, s_l_middles_right, r_pow39, r_lineN]
  refine (dip3 is_l_dip j (by omega) (by omega) (by omega)).mono ?_
  rintro _ h1 ⟨i, rfl, i0, i1, j1, m1⟩
  obtain ⟨R, e, R0, R1⟩ := reach4 i0 i1
  simp (config := {maxSteps := 3000000}) (disch := first | assumption | with_unfolding_all exact id rfl | with_unfolding_all exact Nat.le_of_ble_eq_true rfl | omega) only [r_add, r_sub, r_mulL, r_mulR, r_mod, r_fdiv, r_divmod, r_pint, r_pintb, r_abs, r_min2, r_max2, r_lent, r_lenl, r_lens, r_lenr, r_tupl, r_tupt, r_negi, r_trub, r_trui, r_lt, r_le, r_gt, r_ge, r_isb, r_isnb, r_idxt, r_idxl, r_idxs, r_idxr, r_atT, r_at0, r_at1, r_at2, r_ix30, r_ix31, r_ix32, r_mkF, r_mkT, r_itt, r_itl, r_its, r_itr, r_stt, r_stl, r_sts, r_isii, r_isib, r_isit, r_isil, r_isis, r_k1, r_k2, r_k3, r_k4, r_k5, r_k6, r_k7, r_k8, r_k9, r_k10, r_k11, r_k12, r_k13, r_k14, r_k15, r_wi0, r_wi1, r_bin0, r_line, r_frzb, r_frzi, r_frzn, r_frzs, r_ret, r_no, ↓r_bnd, r_newO, r_getO, r_getO_set, r_setO, r_setO_set, r_ite, r_nox, ↓w_es0, ↓w_es1, ↓w_cO0, ↓w_cO1, ↓w_ifs0, ↓w_ifs1, ↓w_var, ↓w_con, ↓w_glob, ↓w_bin, ↓w_neg, ↓w_not, ↓w_and, ↓w_or, ↓w_ite, ↓w_cmp, ↓w_cmp2, ↓w_cmp3, ↓w_eqo, ↓w_tup, ↓w_lst, ↓w_idx, ↓w_slc, ↓w_fld, ↓w_call, ↓w_make, ↓w_meth, ↓w_prim, ↓w_isi, ↓w_bm, ↓w_lc, ↓w_rng, ↓w_enum, ↓w_zip, ↓w_seq, ↓w_gName, ↓w_gs0, ↓w_gs1, ↓w_gTup, ↓w_gTupL, ↓w_gSub, ↓w_gFld, ↓w_ss0, ↓w_ss1, ↓w_expr, ↓w_asg, ↓w_aug, ↓w_sret, ↓w_sif, ↓w_rai, ↓w_pass, ↓w_for, ↓w_runS, r_lineN, r_lentri, r_lenrow, r_tri, r_tri1, r_tri0, r_row, r_row1, r_row0, r_isitri, r_isirow, r_sort3, r_mid, r_n1, r_n0, ↓w_rngN, r_tupr, r_frztri, r_frzrow, ↓w_app0, r_cuttri, r_ittri, r_itrow, r_sttri, r_strow, r_atlast, r_put0, r_put10, r_fld0, r_fld1, r_isgrd, r_clsgrd, r_cutrow, r_eqi, r_nei, r_eqb, ↓w_lc2, ↓r_rng, ↓w_bme, ↓w_app, ↓w_ext, r_sortp, r_zip1, r_zip0, r_sort3, r_eql3, r_allT, r_alll, r_addl, r_addt, bd_qlaw, bd_l_right, bd_l_middles_right, bd_l_dip, bd_qmiddle, bi_qmiddle_0, bi_qmiddle_1, bd_qcheck_number, bd_qis_whole, bd_qmiddle_of, bd_l_is_whole, bd_l_rows, bd_l_size, bd_qGround_init, bd_qcheck_rows, bd_qis_row, bd_l_floors, bd_l_over, bd_qfloors, bi_qfloors_0, bd_qcheck_ground, bd_qfloors_of, bd_qnext_rows, bd_qtop, bi_qtop_0, bd_qtop_of, bd_qGround_put, bd_qcheck_spot, bd_qis_spot_of, bd_qis_within, bd_l_jar, bd_l_cell, bd_qGround_eq, gl_0, ↓bnd_ret, ↓bnd_no, ofO_some, Option.bind_some, id, List.getElem?_cons_zero, List.getElem?_cons_succ, List.set_cons_zero, List.set_cons_succ, List.length_cons, List.length_nil, if_true, if_false, Bool.false_eq_true, List.map_cons, List.map_nil, List.cons_append, List.nil_append, List.append_nil, List.replicate_succ, List.replicate_zero, ↓reduceIte, Bool.not_true, Bool.not_false, decide_true, decide_false, Nat.reduceAdd, Nat.reduceLT, Nat.reduceLeDiff, List.length_set, true_and, and_true, Int.cast_ofNat_Int, eq_self, e]
  refine (W_comp (fun h2 => Jr h2 n0 ∧ Mo n0 h h2) (fun y => ∃ i : Int, y = .int i) (fun x m h2 jj => ?_) ⟨j1, m1⟩).mono ?_
  · obtain ⟨j2, m2⟩ := jj
    obtain ⟨i, m, rfl⟩ := List.mem_map.mp m
    simp (config := {maxSteps := 3000000}) (disch := first | assumption | with_unfolding_all exact id rfl | with_unfolding_all exact Nat.le_of_ble_eq_true rfl | omega) only [r_add, r_sub, r_mulL, r_mulR, r_mod, r_fdiv, r_divmod, r_pint, r_pintb, r_abs, r_min2, r_max2, r_lent, r_lenl, r_lens, r_lenr, r_tupl, r_tupt, r_negi, r_trub, r_trui, r_lt, r_le, r_gt, r_ge, r_isb, r_isnb, r_idxt, r_idxl, r_idxs, r_idxr, r_atT, r_at0, r_at1, r_at2, r_ix30, r_ix31, r_ix32, r_mkF, r_mkT, r_itt, r_itl, r_its, r_itr, r_stt, r_stl, r_sts, r_isii, r_isib, r_isit, r_isil, r_isis, r_k1, r_k2, r_k3, r_k4, r_k5, r_k6, r_k7, r_k8, r_k9, r_k10, r_k11, r_k12, r_k13, r_k14, r_k15, r_wi0, r_wi1, r_bin0, r_line, r_frzb, r_frzi, r_frzn, r_frzs, r_ret, r_no, ↓r_bnd, r_newO, r_getO, r_getO_set, r_setO, r_setO_set, r_ite, r_nox, ↓w_es0, ↓w_es1, ↓w_cO0, ↓w_cO1, ↓w_ifs0, ↓w_ifs1, ↓w_var, ↓w_con, ↓w_glob, ↓w_bin, ↓w_neg, ↓w_not, ↓w_and, ↓w_or, ↓w_ite, ↓w_cmp, ↓w_cmp2, ↓w_cmp3, ↓w_eqo, ↓w_tup, ↓w_lst, ↓w_idx, ↓w_slc, ↓w_fld, ↓w_call, ↓w_make, ↓w_meth, ↓w_prim, ↓w_isi, ↓w_bm, ↓w_lc, ↓w_rng, ↓w_enum, ↓w_zip, ↓w_seq, ↓w_gName, ↓w_gs0, ↓w_gs1, ↓w_gTup, ↓w_gTupL, ↓w_gSub, ↓w_gFld, ↓w_ss0, ↓w_ss1, ↓w_expr, ↓w_asg, ↓w_aug, ↓w_sret, ↓w_sif, ↓w_rai, ↓w_pass, ↓w_for, ↓w_runS, r_lineN, r_lentri, r_lenrow, r_tri, r_tri1, r_tri0, r_row, r_row1, r_row0, r_isitri, r_isirow, r_sort3, r_mid, r_n1, r_n0, ↓w_rngN, r_tupr, r_frztri, r_frzrow, ↓w_app0, r_cuttri, r_ittri, r_itrow, r_sttri, r_strow, r_atlast, r_put0, r_put10, r_fld0, r_fld1, r_isgrd, r_clsgrd, r_cutrow, r_eqi, r_nei, r_eqb, ↓w_lc2, ↓r_rng, ↓w_bme, ↓w_app, ↓w_ext, r_sortp, r_zip1, r_zip0, r_sort3, r_eql3, r_allT, r_alll, r_addl, r_addt, bd_qlaw, bd_l_right, bd_l_middles_right, bd_l_dip, bd_qmiddle, bi_qmiddle_0, bi_qmiddle_1, bd_qcheck_number, bd_qis_whole, bd_qmiddle_of, bd_l_is_whole, bd_l_rows, bd_l_size, bd_qGround_init, bd_qcheck_rows, bd_qis_row, bd_l_floors, bd_l_over, bd_qfloors, bi_qfloors_0, bd_qcheck_ground, bd_qfloors_of, bd_qnext_rows, bd_qtop, bi_qtop_0, bd_qtop_of, bd_qGround_put, bd_qcheck_spot, bd_qis_spot_of, bd_qis_within, bd_l_jar, bd_l_cell, bd_qGround_eq, gl_0, ↓bnd_ret, ↓bnd_no, ofO_some, Option.bind_some, id, List.getElem?_cons_zero, List.getElem?_cons_succ, List.set_cons_zero, List.set_cons_succ, List.length_cons, List.length_nil, if_true, if_false, Bool.false_eq_true, List.map_cons, List.map_nil, List.cons_append, List.nil_append, List.append_nil, List.replicate_succ, List.replicate_zero, ↓reduceIte, Bool.not_true, Bool.not_false, decide_true, decide_false, Nat.reduceAdd, Nat.reduceLT, Nat.reduceLeDiff, List.length_set, true_and, and_true, Int.cast_ofNat_Int, eq_self]
    refine (dip3 is_l_dip j2 (by omega) (by omega) (by omega)).mono ?_
    rintro _ h3 ⟨i, rfl, i0, i1, j3, m3⟩
    simp (config := {maxSteps := 3000000}) (disch := first | assumption | with_unfolding_all exact id rfl | with_unfolding_all exact Nat.le_of_ble_eq_true rfl | omega) only [r_add, r_sub, r_mulL, r_mulR, r_mod, r_fdiv, r_divmod, r_pint, r_pintb, r_abs, r_min2, r_max2, r_lent, r_lenl, r_lens, r_lenr, r_tupl, r_tupt, r_negi, r_trub, r_trui, r_lt, r_le, r_gt, r_ge, r_isb, r_isnb, r_idxt, r_idxl, r_idxs, r_idxr, r_atT, r_at0, r_at1, r_at2, r_ix30, r_ix31, r_ix32, r_mkF, r_mkT, r_itt, r_itl, r_its, r_itr, r_stt, r_stl, r_sts, r_isii, r_isib, r_isit, r_isil, r_isis, r_k1, r_k2, r_k3, r_k4, r_k5, r_k6, r_k7, r_k8, r_k9, r_k10, r_k11, r_k12, r_k13, r_k14, r_k15, r_wi0, r_wi1, r_bin0, r_line, r_frzb, r_frzi, r_frzn, r_frzs, r_ret, r_no, ↓r_bnd, r_newO, r_getO, r_getO_set, r_setO, r_setO_set, r_ite, r_nox, ↓w_es0, ↓w_es1, ↓w_cO0, ↓w_cO1, ↓w_ifs0, ↓w_ifs1, ↓w_var, ↓w_con, ↓w_glob, ↓w_bin, ↓w_neg, ↓w_not, ↓w_and, ↓w_or, ↓w_ite, ↓w_cmp, ↓w_cmp2, ↓w_cmp3, ↓w_eqo, ↓w_tup, ↓w_lst, ↓w_idx, ↓w_slc, ↓w_fld, ↓w_call, ↓w_make, ↓w_meth, ↓w_prim, ↓w_isi, ↓w_bm, ↓w_lc, ↓w_rng, ↓w_enum, ↓w_zip, ↓w_seq, ↓w_gName, ↓w_gs0, ↓w_gs1, ↓w_gTup, ↓w_gTupL, ↓w_gSub, ↓w_gFld, ↓w_ss0, ↓w_ss1, ↓w_expr, ↓w_asg, ↓w_aug, ↓w_sret, ↓w_sif, ↓w_rai, ↓w_pass, ↓w_for, ↓w_runS, r_lineN, r_lentri, r_lenrow, r_tri, r_tri1, r_tri0, r_row, r_row1, r_row0, r_isitri, r_isirow, r_sort3, r_mid, r_n1, r_n0, ↓w_rngN, r_tupr, r_frztri, r_frzrow, ↓w_app0, r_cuttri, r_ittri, r_itrow, r_sttri, r_strow, r_atlast, r_put0, r_put10, r_fld0, r_fld1, r_isgrd, r_clsgrd, r_cutrow, r_eqi, r_nei, r_eqb, ↓w_lc2, ↓r_rng, ↓w_bme, ↓w_app, ↓w_ext, r_sortp, r_zip1, r_zip0, r_sort3, r_eql3, r_allT, r_alll, r_addl, r_addt, bd_qlaw, bd_l_right, bd_l_middles_right, bd_l_dip, bd_qmiddle, bi_qmiddle_0, bi_qmiddle_1, bd_qcheck_number, bd_qis_whole, bd_qmiddle_of, bd_l_is_whole, bd_l_rows, bd_l_size, bd_qGround_init, bd_qcheck_rows, bd_qis_row, bd_l_floors, bd_l_over, bd_qfloors, bi_qfloors_0, bd_qcheck_ground, bd_qfloors_of, bd_qnext_rows, bd_qtop, bi_qtop_0, bd_qtop_of, bd_qGround_put, bd_qcheck_spot, bd_qis_spot_of, bd_qis_within, bd_l_jar, bd_l_cell, bd_qGround_eq, gl_0, ↓bnd_ret, ↓bnd_no, ofO_some, Option.bind_some, id, List.getElem?_cons_zero, List.getElem?_cons_succ, List.set_cons_zero, List.set_cons_succ, List.length_cons, List.length_nil, if_true, if_false, Bool.false_eq_true, List.map_cons, List.map_nil, List.cons_append, List.nil_append, List.append_nil, List.replicate_succ, List.replicate_zero, ↓reduceIte, Bool.not_true, Bool.not_false, decide_true, decide_false, Nat.reduceAdd, Nat.reduceLT, Nat.reduceLeDiff, List.length_set, true_and, and_true, Int.cast_ofNat_Int, eq_self]
    exact ⟨⟨j3, m2.trans m3⟩, _, rfl, _, rfl⟩
  · rintro ys h2 ⟨⟨j2, m2⟩, ly, hy⟩
    obtain ⟨a, b, c, rfl⟩ := three_ints (by rw [ly]; simp) hy
    have s3 : Sv h (h2 ++ [.lst [.int a, .int b, .int c]]) n0 := ((Sv.refl j).dip m2).push fun _ => rfl
    have e3 : (h2 ++ [O.lst [.int a, .int b, .int c]])[h2.length]? = some (.lst [.int a, .int b, .int c]) := by simp
    have lp : h.length ≤ h2.length := by rw [m2.len]; exact Nat.le_refl _
    have hnp : h2.length ≠ n0 := by have := j.lt; omega
    have fin : ∀ (h4 : Sto), Sv h h4 n0 → ∃ v', Mt.frz h.length h4 (T.bl true) = some v' ∧ Sv h h4 n0 ∧ ∀ h'', Jr h'' n0 → Mo n0 h h'' → v' = T.bl true ∧ Jr h'' n0 ∧ Mo n0 h h'' := fun h4 s => ⟨_, rfl, s, fun h'' j' m => ⟨rfl, j', m⟩⟩
    simp (config := {maxSteps := 3000000}) (disch := first | assumption | with_unfolding_all exact id rfl | with_unfolding_all exact Nat.le_of_ble_eq_true rfl | omega) only [r_add, r_sub, r_mulL, r_mulR, r_mod, r_fdiv, r_divmod, r_pint, r_pintb, r_abs, r_min2, r_max2, r_lent, r_lenl, r_lens, r_lenr, r_tupl, r_tupt, r_negi, r_trub, r_trui, r_lt, r_le, r_gt, r_ge, r_isb, r_isnb, r_idxt, r_idxl, r_idxs, r_idxr, r_atT, r_at0, r_at1, r_at2, r_ix30, r_ix31, r_ix32, r_mkF, r_mkT, r_itt, r_itl, r_its, r_itr, r_stt, r_stl, r_sts, r_isii, r_isib, r_isit, r_isil, r_isis, r_k1, r_k2, r_k3, r_k4, r_k5, r_k6, r_k7, r_k8, r_k9, r_k10, r_k11, r_k12, r_k13, r_k14, r_k15, r_wi0, r_wi1, r_bin0, r_line, r_frzb, r_frzi, r_frzn, r_frzs, r_ret, r_no, ↓r_bnd, r_newO, r_getO, r_getO_set, r_setO, r_setO_set, r_ite, r_nox, ↓w_es0, ↓w_es1, ↓w_cO0, ↓w_cO1, ↓w_ifs0, ↓w_ifs1, ↓w_var, ↓w_con, ↓w_glob, ↓w_bin, ↓w_neg, ↓w_not, ↓w_and, ↓w_or, ↓w_ite, ↓w_cmp, ↓w_cmp2, ↓w_cmp3, ↓w_eqo, ↓w_tup, ↓w_lst, ↓w_idx, ↓w_slc, ↓w_fld, ↓w_call, ↓w_make, ↓w_meth, ↓w_prim, ↓w_isi, ↓w_bm, ↓w_lc, ↓w_rng, ↓w_enum, ↓w_zip, ↓w_seq, ↓w_gName, ↓w_gs0, ↓w_gs1, ↓w_gTup, ↓w_gTupL, ↓w_gSub, ↓w_gFld, ↓w_ss0, ↓w_ss1, ↓w_expr, ↓w_asg, ↓w_aug, ↓w_sret, ↓w_sif, ↓w_rai, ↓w_pass, ↓w_for, ↓w_runS, r_lineN, r_lentri, r_lenrow, r_tri, r_tri1, r_tri0, r_row, r_row1, r_row0, r_isitri, r_isirow, r_sort3, r_mid, r_n1, r_n0, ↓w_rngN, r_tupr, r_frztri, r_frzrow, ↓w_app0, r_cuttri, r_ittri, r_itrow, r_sttri, r_strow, r_atlast, r_put0, r_put10, r_fld0, r_fld1, r_isgrd, r_clsgrd, r_cutrow, r_eqi, r_nei, r_eqb, ↓w_lc2, ↓r_rng, ↓w_bme, ↓w_app, ↓w_ext, r_sortp, r_zip1, r_zip0, r_sort3, r_eql3, r_allT, r_alll, r_addl, r_addt, bd_qlaw, bd_l_right, bd_l_middles_right, bd_l_dip, bd_qmiddle, bi_qmiddle_0, bi_qmiddle_1, bd_qcheck_number, bd_qis_whole, bd_qmiddle_of, bd_l_is_whole, bd_l_rows, bd_l_size, bd_qGround_init, bd_qcheck_rows, bd_qis_row, bd_l_floors, bd_l_over, bd_qfloors, bi_qfloors_0, bd_qcheck_ground, bd_qfloors_of, bd_qnext_rows, bd_qtop, bi_qtop_0, bd_qtop_of, bd_qGround_put, bd_qcheck_spot, bd_qis_spot_of, bd_qis_within, bd_l_jar, bd_l_cell, bd_qGround_eq, gl_0, ↓bnd_ret, ↓bnd_no, ofO_some, Option.bind_some, id, List.getElem?_cons_zero, List.getElem?_cons_succ, List.set_cons_zero, List.set_cons_succ, List.length_cons, List.length_nil, if_true, if_false, Bool.false_eq_true, List.map_cons, List.map_nil, List.cons_append, List.nil_append, List.append_nil, List.replicate_succ, List.replicate_zero, ↓reduceIte, Bool.not_true, Bool.not_false, decide_true, decide_false, Nat.reduceAdd, Nat.reduceLT, Nat.reduceLeDiff, List.length_set, true_and, and_true, Int.cast_ofNat_Int, eq_self, r_lineN]
    refine (dip3 is_l_dip s3.j (by omega) (by omega) (by omega)).mono ?_
    rintro _ h4 ⟨i, rfl, i0, i1, j4, m4⟩
    have e4 : h4[h2.length]? = some (.lst [.int a, .int b, .int c]) := by rw [m4.ne hnp]; exact e3
    by_cases ci : i = 0
    · subst ci
      simp (config := {maxSteps := 3000000}) (disch := first | assumption | with_unfolding_all exact id rfl | with_unfolding_all exact Nat.le_of_ble_eq_true rfl | omega) only [r_add, r_sub, r_mulL, r_mulR, r_mod, r_fdiv, r_divmod, r_pint, r_pintb, r_abs, r_min2, r_max2, r_lent, r_lenl, r_lens, r_lenr, r_tupl, r_tupt, r_negi, r_trub, r_trui, r_lt, r_le, r_gt, r_ge, r_isb, r_isnb, r_idxt, r_idxl, r_idxs, r_idxr, r_atT, r_at0, r_at1, r_at2, r_ix30, r_ix31, r_ix32, r_mkF, r_mkT, r_itt, r_itl, r_its, r_itr, r_stt, r_stl, r_sts, r_isii, r_isib, r_isit, r_isil, r_isis, r_k1, r_k2, r_k3, r_k4, r_k5, r_k6, r_k7, r_k8, r_k9, r_k10, r_k11, r_k12, r_k13, r_k14, r_k15, r_wi0, r_wi1, r_bin0, r_line, r_frzb, r_frzi, r_frzn, r_frzs, r_ret, r_no, ↓r_bnd, r_newO, r_getO, r_getO_set, r_setO, r_setO_set, r_ite, r_nox, ↓w_es0, ↓w_es1, ↓w_cO0, ↓w_cO1, ↓w_ifs0, ↓w_ifs1, ↓w_var, ↓w_con, ↓w_glob, ↓w_bin, ↓w_neg, ↓w_not, ↓w_and, ↓w_or, ↓w_ite, ↓w_cmp, ↓w_cmp2, ↓w_cmp3, ↓w_eqo, ↓w_tup, ↓w_lst, ↓w_idx, ↓w_slc, ↓w_fld, ↓w_call, ↓w_make, ↓w_meth, ↓w_prim, ↓w_isi, ↓w_bm, ↓w_lc, ↓w_rng, ↓w_enum, ↓w_zip, ↓w_seq, ↓w_gName, ↓w_gs0, ↓w_gs1, ↓w_gTup, ↓w_gTupL, ↓w_gSub, ↓w_gFld, ↓w_ss0, ↓w_ss1, ↓w_expr, ↓w_asg, ↓w_aug, ↓w_sret, ↓w_sif, ↓w_rai, ↓w_pass, ↓w_for, ↓w_runS, r_lineN, r_lentri, r_lenrow, r_tri, r_tri1, r_tri0, r_row, r_row1, r_row0, r_isitri, r_isirow, r_sort3, r_mid, r_n1, r_n0, ↓w_rngN, r_tupr, r_frztri, r_frzrow, ↓w_app0, r_cuttri, r_ittri, r_itrow, r_sttri, r_strow, r_atlast, r_put0, r_put10, r_fld0, r_fld1, r_isgrd, r_clsgrd, r_cutrow, r_eqi, r_nei, r_eqb, ↓w_lc2, ↓r_rng, ↓w_bme, ↓w_app, ↓w_ext, r_sortp, r_zip1, r_zip0, r_sort3, r_eql3, r_allT, r_alll, r_addl, r_addt, bd_qlaw, bd_l_right, bd_l_middles_right, bd_l_dip, bd_qmiddle, bi_qmiddle_0, bi_qmiddle_1, bd_qcheck_number, bd_qis_whole, bd_qmiddle_of, bd_l_is_whole, bd_l_rows, bd_l_size, bd_qGround_init, bd_qcheck_rows, bd_qis_row, bd_l_floors, bd_l_over, bd_qfloors, bi_qfloors_0, bd_qcheck_ground, bd_qfloors_of, bd_qnext_rows, bd_qtop, bi_qtop_0, bd_qtop_of, bd_qGround_put, bd_qcheck_spot, bd_qis_spot_of, bd_qis_within, bd_l_jar, bd_l_cell, bd_qGround_eq, gl_0, ↓bnd_ret, ↓bnd_no, ofO_some, Option.bind_some, id, List.getElem?_cons_zero, List.getElem?_cons_succ, List.set_cons_zero, List.set_cons_succ, List.length_cons, List.length_nil, if_true, if_false, Bool.false_eq_true, List.map_cons, List.map_nil, List.cons_append, List.nil_append, List.append_nil, List.replicate_succ, List.replicate_zero, ↓reduceIte, Bool.not_true, Bool.not_false, decide_true, decide_false, Nat.reduceAdd, Nat.reduceLT, Nat.reduceLeDiff, List.length_set, true_and, and_true, Int.cast_ofNat_Int, eq_self]
      refine (dip3 is_l_dip j4 (by omega) (by omega) (by omega)).mono ?_
      rintro _ h5 ⟨i', rfl, i2, i3, j5, m5⟩
      have e5 : h5[h2.length]? = some (.lst [.int a, .int b, .int c]) := by rw [m5.ne hnp]; exact e4
      have l5 : h2.length < h5.length := (List.getElem?_eq_some_iff.mp e5).1
      obtain ⟨d, ed⟩ : ∃ d : Int, L2.atI [T.int a, T.int b, T.int c] i' = some (.int d) := by
        rcases (by omega : i' = 0 ∨ i' = 1) with rfl | rfl
        · exact ⟨a, r_at0 _ _⟩
        · exact ⟨b, r_at1 _ _ _⟩
      have e6 : (h5.set h2.length (.lst [.int a, .int b, .int d]))[h2.length]? = some (.lst [.int a, .int b, .int d]) := jar_set e5
      have s6 : Sv h (h5.set h2.length (.lst [.int a, .int b, .int d])) n0 := ((s3.dip m4).dip m5).set lp fun _ => rfl
      have p1 := mid1 a b d
      have p2 := mid2 a b d
      have p3 := mid3 a b d
      have p4 := mid4 a b d
      have p5 := mid5 a b d
      simp (config := {maxSteps := 3000000}) (disch := first | assumption | with_unfolding_all exact id rfl | with_unfolding_all exact Nat.le_of_ble_eq_true rfl | omega) only [r_add, r_sub, r_mulL, r_mulR, r_mod, r_fdiv, r_divmod, r_pint, r_pintb, r_abs, r_min2, r_max2, r_lent, r_lenl, r_lens, r_lenr, r_tupl, r_tupt, r_negi, r_trub, r_trui, r_lt, r_le, r_gt, r_ge, r_isb, r_isnb, r_idxt, r_idxl, r_idxs, r_idxr, r_atT, r_at0, r_at1, r_at2, r_ix30, r_ix31, r_ix32, r_mkF, r_mkT, r_itt, r_itl, r_its, r_itr, r_stt, r_stl, r_sts, r_isii, r_isib, r_isit, r_isil, r_isis, r_k1, r_k2, r_k3, r_k4, r_k5, r_k6, r_k7, r_k8, r_k9, r_k10, r_k11, r_k12, r_k13, r_k14, r_k15, r_wi0, r_wi1, r_bin0, r_line, r_frzb, r_frzi, r_frzn, r_frzs, r_ret, r_no, ↓r_bnd, r_newO, r_getO, r_getO_set, r_setO, r_setO_set, r_ite, r_nox, ↓w_es0, ↓w_es1, ↓w_cO0, ↓w_cO1, ↓w_ifs0, ↓w_ifs1, ↓w_var, ↓w_con, ↓w_glob, ↓w_bin, ↓w_neg, ↓w_not, ↓w_and, ↓w_or, ↓w_ite, ↓w_cmp, ↓w_cmp2, ↓w_cmp3, ↓w_eqo, ↓w_tup, ↓w_lst, ↓w_idx, ↓w_slc, ↓w_fld, ↓w_call, ↓w_make, ↓w_meth, ↓w_prim, ↓w_isi, ↓w_bm, ↓w_lc, ↓w_rng, ↓w_enum, ↓w_zip, ↓w_seq, ↓w_gName, ↓w_gs0, ↓w_gs1, ↓w_gTup, ↓w_gTupL, ↓w_gSub, ↓w_gFld, ↓w_ss0, ↓w_ss1, ↓w_expr, ↓w_asg, ↓w_aug, ↓w_sret, ↓w_sif, ↓w_rai, ↓w_pass, ↓w_for, ↓w_runS, r_lineN, r_lentri, r_lenrow, r_tri, r_tri1, r_tri0, r_row, r_row1, r_row0, r_isitri, r_isirow, r_sort3, r_mid, r_n1, r_n0, ↓w_rngN, r_tupr, r_frztri, r_frzrow, ↓w_app0, r_cuttri, r_ittri, r_itrow, r_sttri, r_strow, r_atlast, r_put0, r_put10, r_fld0, r_fld1, r_isgrd, r_clsgrd, r_cutrow, r_eqi, r_nei, r_eqb, ↓w_lc2, ↓r_rng, ↓w_bme, ↓w_app, ↓w_ext, r_sortp, r_zip1, r_zip0, r_sort3, r_eql3, r_allT, r_alll, r_addl, r_addt, bd_qlaw, bd_l_right, bd_l_middles_right, bd_l_dip, bd_qmiddle, bi_qmiddle_0, bi_qmiddle_1, bd_qcheck_number, bd_qis_whole, bd_qmiddle_of, bd_l_is_whole, bd_l_rows, bd_l_size, bd_qGround_init, bd_qcheck_rows, bd_qis_row, bd_l_floors, bd_l_over, bd_qfloors, bi_qfloors_0, bd_qcheck_ground, bd_qfloors_of, bd_qnext_rows, bd_qtop, bi_qtop_0, bd_qtop_of, bd_qGround_put, bd_qcheck_spot, bd_qis_spot_of, bd_qis_within, bd_l_jar, bd_l_cell, bd_qGround_eq, gl_0, ↓bnd_ret, ↓bnd_no, ofO_some, Option.bind_some, id, List.getElem?_cons_zero, List.getElem?_cons_succ, List.set_cons_zero, List.set_cons_succ, List.length_cons, List.length_nil, if_true, if_false, Bool.false_eq_true, List.map_cons, List.map_nil, List.cons_append, List.nil_append, List.append_nil, List.replicate_succ, List.replicate_zero, ↓reduceIte, Bool.not_true, Bool.not_false, decide_true, decide_false, Nat.reduceAdd, Nat.reduceLT, Nat.reduceLeDiff, List.length_set, true_and, and_true, Int.cast_ofNat_Int, eq_self, ed, x_gTupR, f_middle, p1, p2, p3, p4, p5, r_lineN, f_lwhole, x_sortr, u_comp0, u_comp1, r_mid, u_all, u_bls0, u_bls1, Option.map_some, List.all_cons, List.all_nil, Bool.and_self]
      exact fin _ s6
    · have s6 := s3.dip m4
      have p1 := mid1 a b c
      have p2 := mid2 a b c
      have p3 := mid3 a b c
      have p4 := mid4 a b c
      have p5 := mid5 a b c
      simp (config := {maxSteps := 3000000}) (disch := first | assumption | with_unfolding_all exact id rfl | with_unfolding_all exact Nat.le_of_ble_eq_true rfl | omega) only [r_add, r_sub, r_mulL, r_mulR, r_mod, r_fdiv, r_divmod, r_pint, r_pintb, r_abs, r_min2, r_max2, r_lent, r_lenl, r_lens, r_lenr, r_tupl, r_tupt, r_negi, r_trub, r_trui, r_lt, r_le, r_gt, r_ge, r_isb, r_isnb, r_idxt, r_idxl, r_idxs, r_idxr, r_atT, r_at0, r_at1, r_at2, r_ix30, r_ix31, r_ix32, r_mkF, r_mkT, r_itt, r_itl, r_its, r_itr, r_stt, r_stl, r_sts, r_isii, r_isib, r_isit, r_isil, r_isis, r_k1, r_k2, r_k3, r_k4, r_k5, r_k6, r_k7, r_k8, r_k9, r_k10, r_k11, r_k12, r_k13, r_k14, r_k15, r_wi0, r_wi1, r_bin0, r_line, r_frzb, r_frzi, r_frzn, r_frzs, r_ret, r_no, ↓r_bnd, r_newO, r_getO, r_getO_set, r_setO, r_setO_set, r_ite, r_nox, ↓w_es0, ↓w_es1, ↓w_cO0, ↓w_cO1, ↓w_ifs0, ↓w_ifs1, ↓w_var, ↓w_con, ↓w_glob, ↓w_bin, ↓w_neg, ↓w_not, ↓w_and, ↓w_or, ↓w_ite, ↓w_cmp, ↓w_cmp2, ↓w_cmp3, ↓w_eqo, ↓w_tup, ↓w_lst, ↓w_idx, ↓w_slc, ↓w_fld, ↓w_call, ↓w_make, ↓w_meth, ↓w_prim, ↓w_isi, ↓w_bm, ↓w_lc, ↓w_rng, ↓w_enum, ↓w_zip, ↓w_seq, ↓w_gName, ↓w_gs0, ↓w_gs1, ↓w_gTup, ↓w_gTupL, ↓w_gSub, ↓w_gFld, ↓w_ss0, ↓w_ss1, ↓w_expr, ↓w_asg, ↓w_aug, ↓w_sret, ↓w_sif, ↓w_rai, ↓w_pass, ↓w_for, ↓w_runS, r_lineN, r_lentri, r_lenrow, r_tri, r_tri1, r_tri0, r_row, r_row1, r_row0, r_isitri, r_isirow, r_sort3, r_mid, r_n1, r_n0, ↓w_rngN, r_tupr, r_frztri, r_frzrow, ↓w_app0, r_cuttri, r_ittri, r_itrow, r_sttri, r_strow, r_atlast, r_put0, r_put10, r_fld0, r_fld1, r_isgrd, r_clsgrd, r_cutrow, r_eqi, r_nei, r_eqb, ↓w_lc2, ↓r_rng, ↓w_bme, ↓w_app, ↓w_ext, r_sortp, r_zip1, r_zip0, r_sort3, r_eql3, r_allT, r_alll, r_addl, r_addt, bd_qlaw, bd_l_right, bd_l_middles_right, bd_l_dip, bd_qmiddle, bi_qmiddle_0, bi_qmiddle_1, bd_qcheck_number, bd_qis_whole, bd_qmiddle_of, bd_l_is_whole, bd_l_rows, bd_l_size, bd_qGround_init, bd_qcheck_rows, bd_qis_row, bd_l_floors, bd_l_over, bd_qfloors, bi_qfloors_0, bd_qcheck_ground, bd_qfloors_of, bd_qnext_rows, bd_qtop, bi_qtop_0, bd_qtop_of, bd_qGround_put, bd_qcheck_spot, bd_qis_spot_of, bd_qis_within, bd_l_jar, bd_l_cell, bd_qGround_eq, gl_0, ↓bnd_ret, ↓bnd_no, ofO_some, Option.bind_some, id, List.getElem?_cons_zero, List.getElem?_cons_succ, List.set_cons_zero, List.set_cons_succ, List.length_cons, List.length_nil, if_true, if_false, Bool.false_eq_true, List.map_cons, List.map_nil, List.cons_append, List.nil_append, List.append_nil, List.replicate_succ, List.replicate_zero, ↓reduceIte, Bool.not_true, Bool.not_false, decide_true, decide_false, Nat.reduceAdd, Nat.reduceLT, Nat.reduceLeDiff, List.length_set, true_and, and_true, Int.cast_ofNat_Int, eq_self, ci, x_gTupR, f_middle, p1, p2, p3, p4, p5, r_lineN, f_lwhole, x_sortr, u_comp0, u_comp1, r_mid, u_all, u_bls0, u_bls1, Option.map_some, List.all_cons, List.all_nil, Bool.and_self]
      exact fin _ s6
end
end K13

set_option maxHeartbeats 8000000
namespace K13
open PySem Mt
section
variable {n : Nat}
theorem me_put : P.meth 0 0 = some .qGround_put := rfl
theorem me_eq : P.meth 0 1 = some .qGround_eq := rfl
theorem eq_grd (G : Q → List T → M T) (w : Nat) (g g' : Nat → Nat → Int) : eqoT P G 1 (grd w g) (grd w g') = G .qGround_eq [grd w g, grd w g'] := by
  unfold eqoT
  rw [r_clsgrd, bnd_ret, r_clsgrd, bnd_ret, if_pos rfl, me_eq, ofO_some, bnd_ret, bd_qGround_eq, bnd_ret]
theorem at_due {w : Nat} (h1 : 1 ≤ w) (g : Nat → Nat → Int) : L2.atI (floL w g w) (-1) = some (tri 1 (flo g (w - 1))) := by
  obtain ⟨v, rfl⟩ : ∃ v, w = v + 1 := ⟨w - 1, by omega⟩
  show L2.atI ((List.range (v + 1)).map _) (-1) = _
  rw [at_last]
  rw [show v + 1 - v = 1 by omega, show v + 1 - 1 = v by omega]
theorem f_right {h : Sto} {n0 : Nat} (j : Jr h n0) (hn : 14 ≤ n) : W (callS sh n .l_right [.ref n0]) h fun v h' => v = .bl true ∧ Jr h' n0 ∧ Mo n0 h h' := by
  obtain ⟨k, rfl⟩ : ∃ m, n = m + 2 := ⟨n - 2, by omega⟩
  refine call_sv is_l_right j ?_
  have ll := line1000
  simp (config := {maxSteps := 3000000}) (disch := first | assumption | with_unfolding_all exact id rfl | with_unfolding_all exact Nat.le_of_ble_eq_true rfl | omega) only [r_add, r_sub, r_mulL, r_mulR, r_mod, r_fdiv, r_divmod, r_pint, r_pintb, r_abs, r_min2, r_max2, r_lent, r_lenl, r_lens, r_lenr, r_tupl, r_tupt, r_negi, r_trub, r_trui, r_lt, r_le, r_gt, r_ge, r_isb, r_isnb, r_idxt, r_idxl, r_idxs, r_idxr, r_atT, r_at0, r_at1, r_at2, r_ix30, r_ix31, r_ix32, r_mkF, r_mkT, r_itt, r_itl, r_its, r_itr, r_stt, r_stl, r_sts, r_isii, r_isib, r_isit, r_isil, r_isis, r_k1, r_k2, r_k3, r_k4, r_k5, r_k6, r_k7, r_k8, r_k9, r_k10, r_k11, r_k12, r_k13, r_k14, r_k15, r_wi0, r_wi1, r_bin0, r_line, r_frzb, r_frzi, r_frzn, r_frzs, r_ret, r_no, ↓r_bnd, r_newO, r_getO, r_getO_set, r_setO, r_setO_set, r_ite, r_nox, ↓w_es0, ↓w_es1, ↓w_cO0, ↓w_cO1, ↓w_ifs0, ↓w_ifs1, ↓w_var, ↓w_con, ↓w_glob, ↓w_bin, ↓w_neg, ↓w_not, ↓w_and, ↓w_or, ↓w_ite, ↓w_cmp, ↓w_cmp2, ↓w_cmp3, ↓w_eqo, ↓w_tup, ↓w_lst, ↓w_idx, ↓w_slc, ↓w_fld, ↓w_call, ↓w_make, ↓w_meth, ↓w_prim, ↓w_isi, ↓w_bm, ↓w_lc, ↓w_rng, ↓w_enum, ↓w_zip, ↓w_seq, ↓w_gName, ↓w_gs0, ↓w_gs1, ↓w_gTup, ↓w_gTupL, ↓w_gSub, ↓w_gFld, ↓w_ss0, ↓w_ss1, ↓w_expr, ↓w_asg, ↓w_aug, ↓w_sret, ↓w_sif, ↓w_rai, ↓w_pass, ↓w_for, ↓w_runS, r_lineN, r_lentri, r_lenrow, r_tri, r_tri1, r_tri0, r_row, r_row1, r_row0, r_isitri, r_isirow, r_sort3, r_mid, r_n1, r_n0, ↓w_rngN, r_tupr, r_frztri, r_frzrow, ↓w_app0, r_cuttri, r_ittri, r_itrow, r_sttri, r_strow, r_atlast, r_put0, r_put10, r_fld0, r_fld1, r_isgrd, r_clsgrd, r_cutrow, r_eqi, r_nei, r_eqb, ↓w_lc2, ↓r_rng, ↓w_bme, ↓w_app, ↓w_ext, r_sortp, r_zip1, r_zip0, r_sort3, r_eql3, r_allT, r_alll, r_addl, r_addt, bd_qlaw, bd_l_right, bd_l_middles_right, bd_l_dip, bd_qmiddle, bi_qmiddle_0, bi_qmiddle_1, bd_qcheck_number, bd_qis_whole, bd_qmiddle_of, bd_l_is_whole, bd_l_rows, bd_l_size, bd_qGround_init, bd_qcheck_rows, bd_qis_row, bd_l_floors, bd_l_over, bd_qfloors, bi_qfloors_0, bd_qcheck_ground, bd_qfloors_of, bd_qnext_rows, bd_qtop, bi_qtop_0, bd_qtop_of, bd_qGround_put, bd_qcheck_spot, bd_qis_spot_of, bd_qis_within, bd_l_jar, bd_l_cell, bd_qGround_eq, gl_0, ↓bnd_ret, ↓bnd_no, ofO_some, Option.bind_some, id, List.getElem?_cons_zero, List.getElem?_cons_succ, List.set_cons_zero, List.set_cons_succ, List.length_cons, List.length_nil, if_true, if_false, Bool.false_eq_true, List.map_cons, List.map_nil, List.cons_append, List.nil_append, List.append_nil, List.replicate_succ, List.replicate_zero, ↓reduceIte, Bool.not_true, Bool.not_false, decide_true, decide_false, Nat.reduceAdd, Nat.reduceLT, Nat.reduceLeDiff, List.length_set, true_and, and_true, Int.cast_ofNat_Int, eq_self, s_l_right]
  refine (f_middles j (by omega)).mono ?_
  rintro _ h1 ⟨rfl, j1, m1⟩
  simp (config := {maxSteps := 3000000}) (disch := first | assumption | with_unfolding_all exact id rfl | with_unfolding_all exact Nat.le_of_ble_eq_true rfl | omega) only [r_add, r_sub, r_mulL, r_mulR, r_mod, r_fdiv, r_divmod, r_pint, r_pintb, r_abs, r_min2, r_max2, r_lent, r_lenl, r_lens, r_lenr, r_tupl, r_tupt, r_negi, r_trub, r_trui, r_lt, r_le, r_gt, r_ge, r_isb, r_isnb, r_idxt, r_idxl, r_idxs, r_idxr, r_atT, r_at0, r_at1, r_at2, r_ix30, r_ix31, r_ix32, r_mkF, r_mkT, r_itt, r_itl, r_its, r_itr, r_stt, r_stl, r_sts, r_isii, r_isib, r_isit, r_isil, r_isis, r_k1, r_k2, r_k3, r_k4, r_k5, r_k6, r_k7, r_k8, r_k9, r_k10, r_k11, r_k12, r_k13, r_k14, r_k15, r_wi0, r_wi1, r_bin0, r_line, r_frzb, r_frzi, r_frzn, r_frzs, r_ret, r_no, ↓r_bnd, r_newO, r_getO, r_getO_set, r_setO, r_setO_set, r_ite, r_nox, ↓w_es0, ↓w_es1, ↓w_cO0, ↓w_cO1, ↓w_ifs0, ↓w_ifs1, ↓w_var, ↓w_con, ↓w_glob, ↓w_bin, ↓w_neg, ↓w_not, ↓w_and, ↓w_or, ↓w_ite, ↓w_cmp, ↓w_cmp2, ↓w_cmp3, ↓w_eqo, ↓w_tup, ↓w_lst, ↓w_idx, ↓w_slc, ↓w_fld, ↓w_call, ↓w_make, ↓w_meth, ↓w_prim, ↓w_isi, ↓w_bm, ↓w_lc, ↓w_rng, ↓w_enum, ↓w_zip, ↓w_seq, ↓w_gName, ↓w_gs0, ↓w_gs1, ↓w_gTup, ↓w_gTupL, ↓w_gSub, ↓w_gFld, ↓w_ss0, ↓w_ss1, ↓w_expr, ↓w_asg, ↓w_aug, ↓w_sret, ↓w_sif, ↓w_rai, ↓w_pass, ↓w_for, ↓w_runS, r_lineN, r_lentri, r_lenrow, r_tri, r_tri1, r_tri0, r_row, r_row1, r_row0, r_isitri, r_isirow, r_sort3, r_mid, r_n1, r_n0, ↓w_rngN, r_tupr, r_frztri, r_frzrow, ↓w_app0, r_cuttri, r_ittri, r_itrow, r_sttri, r_strow, r_atlast, r_put0, r_put10, r_fld0, r_fld1, r_isgrd, r_clsgrd, r_cutrow, r_eqi, r_nei, r_eqb, ↓w_lc2, ↓r_rng, ↓w_bme, ↓w_app, ↓w_ext, r_sortp, r_zip1, r_zip0, r_sort3, r_eql3, r_allT, r_alll, r_addl, r_addt, bd_qlaw, bd_l_right, bd_l_middles_right, bd_l_dip, bd_qmiddle, bi_qmiddle_0, bi_qmiddle_1, bd_qcheck_number, bd_qis_whole, bd_qmiddle_of, bd_l_is_whole, bd_l_rows, bd_l_size, bd_qGround_init, bd_qcheck_rows, bd_qis_row, bd_l_floors, bd_l_over, bd_qfloors, bi_qfloors_0, bd_qcheck_ground, bd_qfloors_of, bd_qnext_rows, bd_qtop, bi_qtop_0, bd_qtop_of, bd_qGround_put, bd_qcheck_spot, bd_qis_spot_of, bd_qis_within, bd_l_jar, bd_l_cell, bd_qGround_eq, gl_0, ↓bnd_ret, ↓bnd_no, ofO_some, Option.bind_some, id, List.getElem?_cons_zero, List.getElem?_cons_succ, List.set_cons_zero, List.set_cons_succ, List.length_cons, List.length_nil, if_true, if_false, Bool.false_eq_true, List.map_cons, List.map_nil, List.cons_append, List.nil_append, List.append_nil, List.replicate_succ, List.replicate_zero, ↓reduceIte, Bool.not_true, Bool.not_false, decide_true, decide_false, Nat.reduceAdd, Nat.reduceLT, Nat.reduceLeDiff, List.length_set, true_and, and_true, Int.cast_ofNat_Int, eq_self]
  refine (size3 is_l_dip is_l_size j1 (by omega) (by omega) (by omega)).mono ?_
  rintro _ h2 ⟨z, rfl, z1, z2, j2, m2⟩
  obtain ⟨w, rfl⟩ : ∃ w : Nat, z = w := ⟨z.toNat, by omega⟩
  have w1 : 1 ≤ w := by omega
  have w2 : w ≤ 12 := by omega
  simp (config := {maxSteps := 3000000}) (disch := first | assumption | with_unfolding_all exact id rfl | with_unfolding_all exact Nat.le_of_ble_eq_true rfl | omega) only [r_add, r_sub, r_mulL, r_mulR, r_mod, r_fdiv, r_divmod, r_pint, r_pintb, r_abs, r_min2, r_max2, r_lent, r_lenl, r_lens, r_lenr, r_tupl, r_tupt, r_negi, r_trub, r_trui, r_lt, r_le, r_gt, r_ge, r_isb, r_isnb, r_idxt, r_idxl, r_idxs, r_idxr, r_atT, r_at0, r_at1, r_at2, r_ix30, r_ix31, r_ix32, r_mkF, r_mkT, r_itt, r_itl, r_its, r_itr, r_stt, r_stl, r_sts, r_isii, r_isib, r_isit, r_isil, r_isis, r_k1, r_k2, r_k3, r_k4, r_k5, r_k6, r_k7, r_k8, r_k9, r_k10, r_k11, r_k12, r_k13, r_k14, r_k15, r_wi0, r_wi1, r_bin0, r_line, r_frzb, r_frzi, r_frzn, r_frzs, r_ret, r_no, ↓r_bnd, r_newO, r_getO, r_getO_set, r_setO, r_setO_set, r_ite, r_nox, ↓w_es0, ↓w_es1, ↓w_cO0, ↓w_cO1, ↓w_ifs0, ↓w_ifs1, ↓w_var, ↓w_con, ↓w_glob, ↓w_bin, ↓w_neg, ↓w_not, ↓w_and, ↓w_or, ↓w_ite, ↓w_cmp, ↓w_cmp2, ↓w_cmp3, ↓w_eqo, ↓w_tup, ↓w_lst, ↓w_idx, ↓w_slc, ↓w_fld, ↓w_call, ↓w_make, ↓w_meth, ↓w_prim, ↓w_isi, ↓w_bm, ↓w_lc, ↓w_rng, ↓w_enum, ↓w_zip, ↓w_seq, ↓w_gName, ↓w_gs0, ↓w_gs1, ↓w_gTup, ↓w_gTupL, ↓w_gSub, ↓w_gFld, ↓w_ss0, ↓w_ss1, ↓w_expr, ↓w_asg, ↓w_aug, ↓w_sret, ↓w_sif, ↓w_rai, ↓w_pass, ↓w_for, ↓w_runS, r_lineN, r_lentri, r_lenrow, r_tri, r_tri1, r_tri0, r_row, r_row1, r_row0, r_isitri, r_isirow, r_sort3, r_mid, r_n1, r_n0, ↓w_rngN, r_tupr, r_frztri, r_frzrow, ↓w_app0, r_cuttri, r_ittri, r_itrow, r_sttri, r_strow, r_atlast, r_put0, r_put10, r_fld0, r_fld1, r_isgrd, r_clsgrd, r_cutrow, r_eqi, r_nei, r_eqb, ↓w_lc2, ↓r_rng, ↓w_bme, ↓w_app, ↓w_ext, r_sortp, r_zip1, r_zip0, r_sort3, r_eql3, r_allT, r_alll, r_addl, r_addt, bd_qlaw, bd_l_right, bd_l_middles_right, bd_l_dip, bd_qmiddle, bi_qmiddle_0, bi_qmiddle_1, bd_qcheck_number, bd_qis_whole, bd_qmiddle_of, bd_l_is_whole, bd_l_rows, bd_l_size, bd_qGround_init, bd_qcheck_rows, bd_qis_row, bd_l_floors, bd_l_over, bd_qfloors, bi_qfloors_0, bd_qcheck_ground, bd_qfloors_of, bd_qnext_rows, bd_qtop, bi_qtop_0, bd_qtop_of, bd_qGround_put, bd_qcheck_spot, bd_qis_spot_of, bd_qis_within, bd_l_jar, bd_l_cell, bd_qGround_eq, gl_0, ↓bnd_ret, ↓bnd_no, ofO_some, Option.bind_some, id, List.getElem?_cons_zero, List.getElem?_cons_succ, List.set_cons_zero, List.set_cons_succ, List.length_cons, List.length_nil, if_true, if_false, Bool.false_eq_true, List.map_cons, List.map_nil, List.cons_append, List.nil_append, List.append_nil, List.replicate_succ, List.replicate_zero, ↓reduceIte, Bool.not_true, Bool.not_false, decide_true, decide_false, Nat.reduceAdd, Nat.reduceLT, Nat.reduceLeDiff, List.length_set, true_and, and_true, Int.cast_ofNat_Int, eq_self]
  refine (f_rows j2 (by omega) w2).mono ?_
  rintro _ h3 ⟨g, rfl, gs, j3, m3⟩
  have gb : ∀ r a, Sb (g r a) := fun r a => by
    have := gs r a
    unfold Sm at this
    unfold Sb
    omega
  have fb := flo_P Sm gs (w - 1) 0 0
  unfold Sm at fb
  obtain ⟨S1, r1, d1⟩ := floL_rp gb w2
  obtain ⟨S2, r2, d2⟩ := (sb_rp (i := flo g (w - 1) 0 0) (by unfold Sb; omega)).run (by decide) (by decide) false
  have d3 : T.dat 64 (.lst [T.str S2, T.str S2]) = true := by
    show (T.dat 63 (T.str S2) && (T.dat 63 (T.str S2) && true)) = true
    have : T.dat 63 (T.str S2) = true := d2
    rw [this]; rfl
  have ed := at_due w1 g
  simp (config := {maxSteps := 3000000}) (disch := first | assumption | with_unfolding_all exact id rfl | with_unfolding_all exact Nat.le_of_ble_eq_true rfl | omega) only [r_add, r_sub, r_mulL, r_mulR, r_mod, r_fdiv, r_divmod, r_pint, r_pintb, r_abs, r_min2, r_max2, r_lent, r_lenl, r_lens, r_lenr, r_tupl, r_tupt, r_negi, r_trub, r_trui, r_lt, r_le, r_gt, r_ge, r_isb, r_isnb, r_idxt, r_idxl, r_idxs, r_idxr, r_atT, r_at0, r_at1, r_at2, r_ix30, r_ix31, r_ix32, r_mkF, r_mkT, r_itt, r_itl, r_its, r_itr, r_stt, r_stl, r_sts, r_isii, r_isib, r_isit, r_isil, r_isis, r_k1, r_k2, r_k3, r_k4, r_k5, r_k6, r_k7, r_k8, r_k9, r_k10, r_k11, r_k12, r_k13, r_k14, r_k15, r_wi0, r_wi1, r_bin0, r_line, r_frzb, r_frzi, r_frzn, r_frzs, r_ret, r_no, ↓r_bnd, r_newO, r_getO, r_getO_set, r_setO, r_setO_set, r_ite, r_nox, ↓w_es0, ↓w_es1, ↓w_cO0, ↓w_cO1, ↓w_ifs0, ↓w_ifs1, ↓w_var, ↓w_con, ↓w_glob, ↓w_bin, ↓w_neg, ↓w_not, ↓w_and, ↓w_or, ↓w_ite, ↓w_cmp, ↓w_cmp2, ↓w_cmp3, ↓w_eqo, ↓w_tup, ↓w_lst, ↓w_idx, ↓w_slc, ↓w_fld, ↓w_call, ↓w_make, ↓w_meth, ↓w_prim, ↓w_isi, ↓w_bm, ↓w_lc, ↓w_rng, ↓w_enum, ↓w_zip, ↓w_seq, ↓w_gName, ↓w_gs0, ↓w_gs1, ↓w_gTup, ↓w_gTupL, ↓w_gSub, ↓w_gFld, ↓w_ss0, ↓w_ss1, ↓w_expr, ↓w_asg, ↓w_aug, ↓w_sret, ↓w_sif, ↓w_rai, ↓w_pass, ↓w_for, ↓w_runS, r_lineN, r_lentri, r_lenrow, r_tri, r_tri1, r_tri0, r_row, r_row1, r_row0, r_isitri, r_isirow, r_sort3, r_mid, r_n1, r_n0, ↓w_rngN, r_tupr, r_frztri, r_frzrow, ↓w_app0, r_cuttri, r_ittri, r_itrow, r_sttri, r_strow, r_atlast, r_put0, r_put10, r_fld0, r_fld1, r_isgrd, r_clsgrd, r_cutrow, r_eqi, r_nei, r_eqb, ↓w_lc2, ↓r_rng, ↓w_bme, ↓w_app, ↓w_ext, r_sortp, r_zip1, r_zip0, r_sort3, r_eql3, r_allT, r_alll, r_addl, r_addt, bd_qlaw, bd_l_right, bd_l_middles_right, bd_l_dip, bd_qmiddle, bi_qmiddle_0, bi_qmiddle_1, bd_qcheck_number, bd_qis_whole, bd_qmiddle_of, bd_l_is_whole, bd_l_rows, bd_l_size, bd_qGround_init, bd_qcheck_rows, bd_qis_row, bd_l_floors, bd_l_over, bd_qfloors, bi_qfloors_0, bd_qcheck_ground, bd_qfloors_of, bd_qnext_rows, bd_qtop, bi_qtop_0, bd_qtop_of, bd_qGround_put, bd_qcheck_spot, bd_qis_spot_of, bd_qis_within, bd_l_jar, bd_l_cell, bd_qGround_eq, gl_0, ↓bnd_ret, ↓bnd_no, ofO_some, Option.bind_some, id, List.getElem?_cons_zero, List.getElem?_cons_succ, List.set_cons_zero, List.set_cons_succ, List.length_cons, List.length_nil, if_true, if_false, Bool.false_eq_true, List.map_cons, List.map_nil, List.cons_append, List.nil_append, List.append_nil, List.replicate_succ, List.replicate_zero, ↓reduceIte, Bool.not_true, Bool.not_false, decide_true, decide_false, Nat.reduceAdd, Nat.reduceLT, Nat.reduceLeDiff, List.length_set, true_and, and_true, Int.cast_ofNat_Int, eq_self, f_make, f_lfloors, f_floors, r_lineN]
  refine W_forAll (fun σ h4 => h4 = h3 ∧ ∃ x2 : Option T, σ = [some (.ref n0), some (tri w g), x2, none, none, some (grd w g), some (.tup (floL w g w))]) ?_ ⟨rfl, _, rfl⟩ ?_
  · rintro x m σ h4 ⟨rfl, x2, rfl⟩
    have : x = .tup (floL w g w) := by
      simp only [List.mem_cons, List.mem_nil_iff, or_false] at m
      rcases m with rfl | rfl | rfl <;> rfl
    subst this
    simp (config := {maxSteps := 3000000}) (disch := first | assumption | with_unfolding_all exact id rfl | with_unfolding_all exact Nat.le_of_ble_eq_true rfl | omega) only [r_add, r_sub, r_mulL, r_mulR, r_mod, r_fdiv, r_divmod, r_pint, r_pintb, r_abs, r_min2, r_max2, r_lent, r_lenl, r_lens, r_lenr, r_tupl, r_tupt, r_negi, r_trub, r_trui, r_lt, r_le, r_gt, r_ge, r_isb, r_isnb, r_idxt, r_idxl, r_idxs, r_idxr, r_atT, r_at0, r_at1, r_at2, r_ix30, r_ix31, r_ix32, r_mkF, r_mkT, r_itt, r_itl, r_its, r_itr, r_stt, r_stl, r_sts, r_isii, r_isib, r_isit, r_isil, r_isis, r_k1, r_k2, r_k3, r_k4, r_k5, r_k6, r_k7, r_k8, r_k9, r_k10, r_k11, r_k12, r_k13, r_k14, r_k15, r_wi0, r_wi1, r_bin0, r_line, r_frzb, r_frzi, r_frzn, r_frzs, r_ret, r_no, ↓r_bnd, r_newO, r_getO, r_getO_set, r_setO, r_setO_set, r_ite, r_nox, ↓w_es0, ↓w_es1, ↓w_cO0, ↓w_cO1, ↓w_ifs0, ↓w_ifs1, ↓w_var, ↓w_con, ↓w_glob, ↓w_bin, ↓w_neg, ↓w_not, ↓w_and, ↓w_or, ↓w_ite, ↓w_cmp, ↓w_cmp2, ↓w_cmp3, ↓w_eqo, ↓w_tup, ↓w_lst, ↓w_idx, ↓w_slc, ↓w_fld, ↓w_call, ↓w_make, ↓w_meth, ↓w_prim, ↓w_isi, ↓w_bm, ↓w_lc, ↓w_rng, ↓w_enum, ↓w_zip, ↓w_seq, ↓w_gName, ↓w_gs0, ↓w_gs1, ↓w_gTup, ↓w_gTupL, ↓w_gSub, ↓w_gFld, ↓w_ss0, ↓w_ss1, ↓w_expr, ↓w_asg, ↓w_aug, ↓w_sret, ↓w_sif, ↓w_rai, ↓w_pass, ↓w_for, ↓w_runS, r_lineN, r_lentri, r_lenrow, r_tri, r_tri1, r_tri0, r_row, r_row1, r_row0, r_isitri, r_isirow, r_sort3, r_mid, r_n1, r_n0, ↓w_rngN, r_tupr, r_frztri, r_frzrow, ↓w_app0, r_cuttri, r_ittri, r_itrow, r_sttri, r_strow, r_atlast, r_put0, r_put10, r_fld0, r_fld1, r_isgrd, r_clsgrd, r_cutrow, r_eqi, r_nei, r_eqb, ↓w_lc2, ↓r_rng, ↓w_bme, ↓w_app, ↓w_ext, r_sortp, r_zip1, r_zip0, r_sort3, r_eql3, r_allT, r_alll, r_addl, r_addt, bd_qlaw, bd_l_right, bd_l_middles_right, bd_l_dip, bd_qmiddle, bi_qmiddle_0, bi_qmiddle_1, bd_qcheck_number, bd_qis_whole, bd_qmiddle_of, bd_l_is_whole, bd_l_rows, bd_l_size, bd_qGround_init, bd_qcheck_rows, bd_qis_row, bd_l_floors, bd_l_over, bd_qfloors, bi_qfloors_0, bd_qcheck_ground, bd_qfloors_of, bd_qnext_rows, bd_qtop, bi_qtop_0, bd_qtop_of, bd_qGround_put, bd_qcheck_spot, bd_qis_spot_of, bd_qis_within, bd_l_jar, bd_l_cell, bd_qGround_eq, gl_0, ↓bnd_ret, ↓bnd_no, ofO_some, Option.bind_some, id, List.getElem?_cons_zero, List.getElem?_cons_succ, List.set_cons_zero, List.set_cons_succ, List.length_cons, List.length_nil, if_true, if_false, Bool.false_eq_true, List.map_cons, List.map_nil, List.cons_append, List.nil_append, List.append_nil, List.replicate_succ, List.replicate_zero, ↓reduceIte, Bool.not_true, Bool.not_false, decide_true, decide_false, Nat.reduceAdd, Nat.reduceLT, Nat.reduceLeDiff, List.length_set, true_and, and_true, Int.cast_ofNat_Int, eq_self, r1, ne_same]
    exact ⟨_, rfl⟩
  · rintro σ h4 ⟨rfl, x2, rfl⟩
    simp (config := {maxSteps := 3000000}) (disch := first | assumption | with_unfolding_all exact id rfl | with_unfolding_all exact Nat.le_of_ble_eq_true rfl | omega) only [r_add, r_sub, r_mulL, r_mulR, r_mod, r_fdiv, r_divmod, r_pint, r_pintb, r_abs, r_min2, r_max2, r_lent, r_lenl, r_lens, r_lenr, r_tupl, r_tupt, r_negi, r_trub, r_trui, r_lt, r_le, r_gt, r_ge, r_isb, r_isnb, r_idxt, r_idxl, r_idxs, r_idxr, r_atT, r_at0, r_at1, r_at2, r_ix30, r_ix31, r_ix32, r_mkF, r_mkT, r_itt, r_itl, r_its, r_itr, r_stt, r_stl, r_sts, r_isii, r_isib, r_isit, r_isil, r_isis, r_k1, r_k2, r_k3, r_k4, r_k5, r_k6, r_k7, r_k8, r_k9, r_k10, r_k11, r_k12, r_k13, r_k14, r_k15, r_wi0, r_wi1, r_bin0, r_line, r_frzb, r_frzi, r_frzn, r_frzs, r_ret, r_no, ↓r_bnd, r_newO, r_getO, r_getO_set, r_setO, r_setO_set, r_ite, r_nox, ↓w_es0, ↓w_es1, ↓w_cO0, ↓w_cO1, ↓w_ifs0, ↓w_ifs1, ↓w_var, ↓w_con, ↓w_glob, ↓w_bin, ↓w_neg, ↓w_not, ↓w_and, ↓w_or, ↓w_ite, ↓w_cmp, ↓w_cmp2, ↓w_cmp3, ↓w_eqo, ↓w_tup, ↓w_lst, ↓w_idx, ↓w_slc, ↓w_fld, ↓w_call, ↓w_make, ↓w_meth, ↓w_prim, ↓w_isi, ↓w_bm, ↓w_lc, ↓w_rng, ↓w_enum, ↓w_zip, ↓w_seq, ↓w_gName, ↓w_gs0, ↓w_gs1, ↓w_gTup, ↓w_gTupL, ↓w_gSub, ↓w_gFld, ↓w_ss0, ↓w_ss1, ↓w_expr, ↓w_asg, ↓w_aug, ↓w_sret, ↓w_sif, ↓w_rai, ↓w_pass, ↓w_for, ↓w_runS, r_lineN, r_lentri, r_lenrow, r_tri, r_tri1, r_tri0, r_row, r_row1, r_row0, r_isitri, r_isirow, r_sort3, r_mid, r_n1, r_n0, ↓w_rngN, r_tupr, r_frztri, r_frzrow, ↓w_app0, r_cuttri, r_ittri, r_itrow, r_sttri, r_strow, r_atlast, r_put0, r_put10, r_fld0, r_fld1, r_isgrd, r_clsgrd, r_cutrow, r_eqi, r_nei, r_eqb, ↓w_lc2, ↓r_rng, ↓w_bme, ↓w_app, ↓w_ext, r_sortp, r_zip1, r_zip0, r_sort3, r_eql3, r_allT, r_alll, r_addl, r_addt, bd_qlaw, bd_l_right, bd_l_middles_right, bd_l_dip, bd_qmiddle, bi_qmiddle_0, bi_qmiddle_1, bd_qcheck_number, bd_qis_whole, bd_qmiddle_of, bd_l_is_whole, bd_l_rows, bd_l_size, bd_qGround_init, bd_qcheck_rows, bd_qis_row, bd_l_floors, bd_l_over, bd_qfloors, bi_qfloors_0, bd_qcheck_ground, bd_qfloors_of, bd_qnext_rows, bd_qtop, bi_qtop_0, bd_qtop_of, bd_qGround_put, bd_qcheck_spot, bd_qis_spot_of, bd_qis_within, bd_l_jar, bd_l_cell, bd_qGround_eq, gl_0, ↓bnd_ret, ↓bnd_no, ofO_some, Option.bind_some, id, List.getElem?_cons_zero, List.getElem?_cons_succ, List.set_cons_zero, List.set_cons_succ, List.length_cons, List.length_nil, if_true, if_false, Bool.false_eq_true, List.map_cons, List.map_nil, List.cons_append, List.nil_append, List.append_nil, List.replicate_succ, List.replicate_zero, ↓reduceIte, Bool.not_true, Bool.not_false, decide_true, decide_false, Nat.reduceAdd, Nat.reduceLT, Nat.reduceLeDiff, List.length_set, true_and, and_true, Int.cast_ofNat_Int, eq_self, f_top, ed, r2, x_rep2, ne_same, r_lineN]
    refine (dip3 is_l_dip j3 (m := w) (by omega) (by omega) (by omega)).mono ?_
    rintro _ h5 ⟨x, rfl, x0, x1, j5, m5⟩
    obtain ⟨x, rfl⟩ : ∃ y : Nat, x = y := ⟨x.toNat, by omega⟩
    simp (config := {maxSteps := 3000000}) (disch := first | assumption | with_unfolding_all exact id rfl | with_unfolding_all exact Nat.le_of_ble_eq_true rfl | omega) only [r_add, r_sub, r_mulL, r_mulR, r_mod, r_fdiv, r_divmod, r_pint, r_pintb, r_abs, r_min2, r_max2, r_lent, r_lenl, r_lens, r_lenr, r_tupl, r_tupt, r_negi, r_trub, r_trui, r_lt, r_le, r_gt, r_ge, r_isb, r_isnb, r_idxt, r_idxl, r_idxs, r_idxr, r_atT, r_at0, r_at1, r_at2, r_ix30, r_ix31, r_ix32, r_mkF, r_mkT, r_itt, r_itl, r_its, r_itr, r_stt, r_stl, r_sts, r_isii, r_isib, r_isit, r_isil, r_isis, r_k1, r_k2, r_k3, r_k4, r_k5, r_k6, r_k7, r_k8, r_k9, r_k10, r_k11, r_k12, r_k13, r_k14, r_k15, r_wi0, r_wi1, r_bin0, r_line, r_frzb, r_frzi, r_frzn, r_frzs, r_ret, r_no, ↓r_bnd, r_newO, r_getO, r_getO_set, r_setO, r_setO_set, r_ite, r_nox, ↓w_es0, ↓w_es1, ↓w_cO0, ↓w_cO1, ↓w_ifs0, ↓w_ifs1, ↓w_var, ↓w_con, ↓w_glob, ↓w_bin, ↓w_neg, ↓w_not, ↓w_and, ↓w_or, ↓w_ite, ↓w_cmp, ↓w_cmp2, ↓w_cmp3, ↓w_eqo, ↓w_tup, ↓w_lst, ↓w_idx, ↓w_slc, ↓w_fld, ↓w_call, ↓w_make, ↓w_meth, ↓w_prim, ↓w_isi, ↓w_bm, ↓w_lc, ↓w_rng, ↓w_enum, ↓w_zip, ↓w_seq, ↓w_gName, ↓w_gs0, ↓w_gs1, ↓w_gTup, ↓w_gTupL, ↓w_gSub, ↓w_gFld, ↓w_ss0, ↓w_ss1, ↓w_expr, ↓w_asg, ↓w_aug, ↓w_sret, ↓w_sif, ↓w_rai, ↓w_pass, ↓w_for, ↓w_runS, r_lineN, r_lentri, r_lenrow, r_tri, r_tri1, r_tri0, r_row, r_row1, r_row0, r_isitri, r_isirow, r_sort3, r_mid, r_n1, r_n0, ↓w_rngN, r_tupr, r_frztri, r_frzrow, ↓w_app0, r_cuttri, r_ittri, r_itrow, r_sttri, r_strow, r_atlast, r_put0, r_put10, r_fld0, r_fld1, r_isgrd, r_clsgrd, r_cutrow, r_eqi, r_nei, r_eqb, ↓w_lc2, ↓r_rng, ↓w_bme, ↓w_app, ↓w_ext, r_sortp, r_zip1, r_zip0, r_sort3, r_eql3, r_allT, r_alll, r_addl, r_addt, bd_qlaw, bd_l_right, bd_l_middles_right, bd_l_dip, bd_qmiddle, bi_qmiddle_0, bi_qmiddle_1, bd_qcheck_number, bd_qis_whole, bd_qmiddle_of, bd_l_is_whole, bd_l_rows, bd_l_size, bd_qGround_init, bd_qcheck_rows, bd_qis_row, bd_l_floors, bd_l_over, bd_qfloors, bi_qfloors_0, bd_qcheck_ground, bd_qfloors_of, bd_qnext_rows, bd_qtop, bi_qtop_0, bd_qtop_of, bd_qGround_put, bd_qcheck_spot, bd_qis_spot_of, bd_qis_within, bd_l_jar, bd_l_cell, bd_qGround_eq, gl_0, ↓bnd_ret, ↓bnd_no, ofO_some, Option.bind_some, id, List.getElem?_cons_zero, List.getElem?_cons_succ, List.set_cons_zero, List.set_cons_succ, List.length_cons, List.length_nil, if_true, if_false, Bool.false_eq_true, List.map_cons, List.map_nil, List.cons_append, List.nil_append, List.append_nil, List.replicate_succ, List.replicate_zero, ↓reduceIte, Bool.not_true, Bool.not_false, decide_true, decide_false, Nat.reduceAdd, Nat.reduceLT, Nat.reduceLeDiff, List.length_set, true_and, and_true, Int.cast_ofNat_Int, eq_self, me_put]
    refine (dip3 is_l_dip j5 (m := (x : Int) + 1) (by omega) (by omega) (by omega)).mono ?_
    rintro _ h6 ⟨y, rfl, y0, y1, j6, m6⟩
    obtain ⟨y, rfl⟩ : ∃ z : Nat, y = z := ⟨y.toNat, by omega⟩
    simp (config := {maxSteps := 3000000}) (disch := first | assumption | with_unfolding_all exact id rfl | with_unfolding_all exact Nat.le_of_ble_eq_true rfl | omega) only [r_add, r_sub, r_mulL, r_mulR, r_mod, r_fdiv, r_divmod, r_pint, r_pintb, r_abs, r_min2, r_max2, r_lent, r_lenl, r_lens, r_lenr, r_tupl, r_tupt, r_negi, r_trub, r_trui, r_lt, r_le, r_gt, r_ge, r_isb, r_isnb, r_idxt, r_idxl, r_idxs, r_idxr, r_atT, r_at0, r_at1, r_at2, r_ix30, r_ix31, r_ix32, r_mkF, r_mkT, r_itt, r_itl, r_its, r_itr, r_stt, r_stl, r_sts, r_isii, r_isib, r_isit, r_isil, r_isis, r_k1, r_k2, r_k3, r_k4, r_k5, r_k6, r_k7, r_k8, r_k9, r_k10, r_k11, r_k12, r_k13, r_k14, r_k15, r_wi0, r_wi1, r_bin0, r_line, r_frzb, r_frzi, r_frzn, r_frzs, r_ret, r_no, ↓r_bnd, r_newO, r_getO, r_getO_set, r_setO, r_setO_set, r_ite, r_nox, ↓w_es0, ↓w_es1, ↓w_cO0, ↓w_cO1, ↓w_ifs0, ↓w_ifs1, ↓w_var, ↓w_con, ↓w_glob, ↓w_bin, ↓w_neg, ↓w_not, ↓w_and, ↓w_or, ↓w_ite, ↓w_cmp, ↓w_cmp2, ↓w_cmp3, ↓w_eqo, ↓w_tup, ↓w_lst, ↓w_idx, ↓w_slc, ↓w_fld, ↓w_call, ↓w_make, ↓w_meth, ↓w_prim, ↓w_isi, ↓w_bm, ↓w_lc, ↓w_rng, ↓w_enum, ↓w_zip, ↓w_seq, ↓w_gName, ↓w_gs0, ↓w_gs1, ↓w_gTup, ↓w_gTupL, ↓w_gSub, ↓w_gFld, ↓w_ss0, ↓w_ss1, ↓w_expr, ↓w_asg, ↓w_aug, ↓w_sret, ↓w_sif, ↓w_rai, ↓w_pass, ↓w_for, ↓w_runS, r_lineN, r_lentri, r_lenrow, r_tri, r_tri1, r_tri0, r_row, r_row1, r_row0, r_isitri, r_isirow, r_sort3, r_mid, r_n1, r_n0, ↓w_rngN, r_tupr, r_frztri, r_frzrow, ↓w_app0, r_cuttri, r_ittri, r_itrow, r_sttri, r_strow, r_atlast, r_put0, r_put10, r_fld0, r_fld1, r_isgrd, r_clsgrd, r_cutrow, r_eqi, r_nei, r_eqb, ↓w_lc2, ↓r_rng, ↓w_bme, ↓w_app, ↓w_ext, r_sortp, r_zip1, r_zip0, r_sort3, r_eql3, r_allT, r_alll, r_addl, r_addt, bd_qlaw, bd_l_right, bd_l_middles_right, bd_l_dip, bd_qmiddle, bi_qmiddle_0, bi_qmiddle_1, bd_qcheck_number, bd_qis_whole, bd_qmiddle_of, bd_l_is_whole, bd_l_rows, bd_l_size, bd_qGround_init, bd_qcheck_rows, bd_qis_row, bd_l_floors, bd_l_over, bd_qfloors, bi_qfloors_0, bd_qcheck_ground, bd_qfloors_of, bd_qnext_rows, bd_qtop, bi_qtop_0, bd_qtop_of, bd_qGround_put, bd_qcheck_spot, bd_qis_spot_of, bd_qis_within, bd_l_jar, bd_l_cell, bd_qGround_eq, gl_0, ↓bnd_ret, ↓bnd_no, ofO_some, Option.bind_some, id, List.getElem?_cons_zero, List.getElem?_cons_succ, List.set_cons_zero, List.set_cons_succ, List.length_cons, List.length_nil, if_true, if_false, Bool.false_eq_true, List.map_cons, List.map_nil, List.cons_append, List.nil_append, List.append_nil, List.replicate_succ, List.replicate_zero, ↓reduceIte, Bool.not_true, Bool.not_false, decide_true, decide_false, Nat.reduceAdd, Nat.reduceLT, Nat.reduceLeDiff, List.length_set, true_and, and_true, Int.cast_ofNat_Int, eq_self, ed, r_lineN]
    refine (dip3 is_l_dip j6 (m := 3) (by omega) (by omega) (by omega)).mono ?_
    rintro _ h7 ⟨t, rfl, t0, t1, j7, m7⟩
    have pb : ∀ r a, Sb (putg g x y (flo g (w - 1) 0 0 + t - 1) r a) := fun r a => by
      unfold putg
      split
      · unfold Sb; omega
      · exact gb r a
    obtain ⟨S3, r3, d4⟩ := floL_rp pb w2
    have dt := dat_tri w g
    simp (config := {maxSteps := 3000000}) (disch := first | assumption | with_unfolding_all exact id rfl | with_unfolding_all exact Nat.le_of_ble_eq_true rfl | omega) only [r_add, r_sub, r_mulL, r_mulR, r_mod, r_fdiv, r_divmod, r_pint, r_pintb, r_abs, r_min2, r_max2, r_lent, r_lenl, r_lens, r_lenr, r_tupl, r_tupt, r_negi, r_trub, r_trui, r_lt, r_le, r_gt, r_ge, r_isb, r_isnb, r_idxt, r_idxl, r_idxs, r_idxr, r_atT, r_at0, r_at1, r_at2, r_ix30, r_ix31, r_ix32, r_mkF, r_mkT, r_itt, r_itl, r_its, r_itr, r_stt, r_stl, r_sts, r_isii, r_isib, r_isit, r_isil, r_isis, r_k1, r_k2, r_k3, r_k4, r_k5, r_k6, r_k7, r_k8, r_k9, r_k10, r_k11, r_k12, r_k13, r_k14, r_k15, r_wi0, r_wi1, r_bin0, r_line, r_frzb, r_frzi, r_frzn, r_frzs, r_ret, r_no, ↓r_bnd, r_newO, r_getO, r_getO_set, r_setO, r_setO_set, r_ite, r_nox, ↓w_es0, ↓w_es1, ↓w_cO0, ↓w_cO1, ↓w_ifs0, ↓w_ifs1, ↓w_var, ↓w_con, ↓w_glob, ↓w_bin, ↓w_neg, ↓w_not, ↓w_and, ↓w_or, ↓w_ite, ↓w_cmp, ↓w_cmp2, ↓w_cmp3, ↓w_eqo, ↓w_tup, ↓w_lst, ↓w_idx, ↓w_slc, ↓w_fld, ↓w_call, ↓w_make, ↓w_meth, ↓w_prim, ↓w_isi, ↓w_bm, ↓w_lc, ↓w_rng, ↓w_enum, ↓w_zip, ↓w_seq, ↓w_gName, ↓w_gs0, ↓w_gs1, ↓w_gTup, ↓w_gTupL, ↓w_gSub, ↓w_gFld, ↓w_ss0, ↓w_ss1, ↓w_expr, ↓w_asg, ↓w_aug, ↓w_sret, ↓w_sif, ↓w_rai, ↓w_pass, ↓w_for, ↓w_runS, r_lineN, r_lentri, r_lenrow, r_tri, r_tri1, r_tri0, r_row, r_row1, r_row0, r_isitri, r_isirow, r_sort3, r_mid, r_n1, r_n0, ↓w_rngN, r_tupr, r_frztri, r_frzrow, ↓w_app0, r_cuttri, r_ittri, r_itrow, r_sttri, r_strow, r_atlast, r_put0, r_put10, r_fld0, r_fld1, r_isgrd, r_clsgrd, r_cutrow, r_eqi, r_nei, r_eqb, ↓w_lc2, ↓r_rng, ↓w_bme, ↓w_app, ↓w_ext, r_sortp, r_zip1, r_zip0, r_sort3, r_eql3, r_allT, r_alll, r_addl, r_addt, bd_qlaw, bd_l_right, bd_l_middles_right, bd_l_dip, bd_qmiddle, bi_qmiddle_0, bi_qmiddle_1, bd_qcheck_number, bd_qis_whole, bd_qmiddle_of, bd_l_is_whole, bd_l_rows, bd_l_size, bd_qGround_init, bd_qcheck_rows, bd_qis_row, bd_l_floors, bd_l_over, bd_qfloors, bi_qfloors_0, bd_qcheck_ground, bd_qfloors_of, bd_qnext_rows, bd_qtop, bi_qtop_0, bd_qtop_of, bd_qGround_put, bd_qcheck_spot, bd_qis_spot_of, bd_qis_within, bd_l_jar, bd_l_cell, bd_qGround_eq, gl_0, ↓bnd_ret, ↓bnd_no, ofO_some, Option.bind_some, id, List.getElem?_cons_zero, List.getElem?_cons_succ, List.set_cons_zero, List.set_cons_succ, List.length_cons, List.length_nil, if_true, if_false, Bool.false_eq_true, List.map_cons, List.map_nil, List.cons_append, List.nil_append, List.append_nil, List.replicate_succ, List.replicate_zero, ↓reduceIte, Bool.not_true, Bool.not_false, decide_true, decide_false, Nat.reduceAdd, Nat.reduceLT, Nat.reduceLeDiff, List.length_set, true_and, and_true, Int.cast_ofNat_Int, eq_self, me_put, f_put, f_floors, f_lfloors, r3, r1, ne_same, eq_same, f_make, eq_grd, f_eq]
    exact ⟨_, rfl, (Sv.refl j).dip (m1.trans (m2.trans (m3.trans (m5.trans (m6.trans m7))))), fun h'' j' m => ⟨rfl, j', m⟩⟩
end
theorem f_law (ns : List Int) (hl : ns.length ≤ 63) : callS sh 60 .qlaw [.scr ns] = ret (.bl true) := by
  refine call_pure (m := 58) is_qlaw rfl ?_
  have ll := line1000
  simp (config := {maxSteps := 3000000}) (disch := first | assumption | with_unfolding_all exact id rfl | with_unfolding_all exact Nat.le_of_ble_eq_true rfl | omega) only [r_add, r_sub, r_mulL, r_mulR, r_mod, r_fdiv, r_divmod, r_pint, r_pintb, r_abs, r_min2, r_max2, r_lent, r_lenl, r_lens, r_lenr, r_tupl, r_tupt, r_negi, r_trub, r_trui, r_lt, r_le, r_gt, r_ge, r_isb, r_isnb, r_idxt, r_idxl, r_idxs, r_idxr, r_atT, r_at0, r_at1, r_at2, r_ix30, r_ix31, r_ix32, r_mkF, r_mkT, r_itt, r_itl, r_its, r_itr, r_stt, r_stl, r_sts, r_isii, r_isib, r_isit, r_isil, r_isis, r_k1, r_k2, r_k3, r_k4, r_k5, r_k6, r_k7, r_k8, r_k9, r_k10, r_k11, r_k12, r_k13, r_k14, r_k15, r_wi0, r_wi1, r_bin0, r_line, r_frzb, r_frzi, r_frzn, r_frzs, r_ret, r_no, ↓r_bnd, r_newO, r_getO, r_getO_set, r_setO, r_setO_set, r_ite, r_nox, ↓w_es0, ↓w_es1, ↓w_cO0, ↓w_cO1, ↓w_ifs0, ↓w_ifs1, ↓w_var, ↓w_con, ↓w_glob, ↓w_bin, ↓w_neg, ↓w_not, ↓w_and, ↓w_or, ↓w_ite, ↓w_cmp, ↓w_cmp2, ↓w_cmp3, ↓w_eqo, ↓w_tup, ↓w_lst, ↓w_idx, ↓w_slc, ↓w_fld, ↓w_call, ↓w_make, ↓w_meth, ↓w_prim, ↓w_isi, ↓w_bm, ↓w_lc, ↓w_rng, ↓w_enum, ↓w_zip, ↓w_seq, ↓w_gName, ↓w_gs0, ↓w_gs1, ↓w_gTup, ↓w_gTupL, ↓w_gSub, ↓w_gFld, ↓w_ss0, ↓w_ss1, ↓w_expr, ↓w_asg, ↓w_aug, ↓w_sret, ↓w_sif, ↓w_rai, ↓w_pass, ↓w_for, ↓w_runS, r_lineN, r_lentri, r_lenrow, r_tri, r_tri1, r_tri0, r_row, r_row1, r_row0, r_isitri, r_isirow, r_sort3, r_mid, r_n1, r_n0, ↓w_rngN, r_tupr, r_frztri, r_frzrow, ↓w_app0, r_cuttri, r_ittri, r_itrow, r_sttri, r_strow, r_atlast, r_put0, r_put10, r_fld0, r_fld1, r_isgrd, r_clsgrd, r_cutrow, r_eqi, r_nei, r_eqb, ↓w_lc2, ↓r_rng, ↓w_bme, ↓w_app, ↓w_ext, r_sortp, r_zip1, r_zip0, r_sort3, r_eql3, r_allT, r_alll, r_addl, r_addt, bd_qlaw, bd_l_right, bd_l_middles_right, bd_l_dip, bd_qmiddle, bi_qmiddle_0, bi_qmiddle_1, bd_qcheck_number, bd_qis_whole, bd_qmiddle_of, bd_l_is_whole, bd_l_rows, bd_l_size, bd_qGround_init, bd_qcheck_rows, bd_qis_row, bd_l_floors, bd_l_over, bd_qfloors, bi_qfloors_0, bd_qcheck_ground, bd_qfloors_of, bd_qnext_rows, bd_qtop, bi_qtop_0, bd_qtop_of, bd_qGround_put, bd_qcheck_spot, bd_qis_spot_of, bd_qis_within, bd_l_jar, bd_l_cell, bd_qGround_eq, gl_0, ↓bnd_ret, ↓bnd_no, ofO_some, Option.bind_some, id, List.getElem?_cons_zero, List.getElem?_cons_succ, List.set_cons_zero, List.set_cons_succ, List.length_cons, List.length_nil, if_true, if_false, Bool.false_eq_true, List.map_cons, List.map_nil, List.cons_append, List.nil_append, List.append_nil, List.replicate_succ, List.replicate_zero, ↓reduceIte, Bool.not_true, Bool.not_false, decide_true, decide_false, Nat.reduceAdd, Nat.reduceLT, Nat.reduceLeDiff, List.length_set, true_and, and_true, Int.cast_ofNat_Int, eq_self, s_qlaw]
  refine (W_comp (fun h => Cl h) (fun y => y = T.bl true) (fun x m h j => ?_) Cl.nil).mono ?_
  · obtain ⟨i, mi, rfl⟩ := List.mem_map.mp m
    have hi := List.mem_range.mp mi
    have hi' : i < 1000 := by
      split at hi <;> (try split at hi) <;> omega
    obtain ⟨c, hc⟩ := cell_call is_l_cell ns (i := 0 + i) (by omega) (by omega) (k := 59) (by decide)
    simp (config := {maxSteps := 3000000}) (disch := first | assumption | with_unfolding_all exact id rfl | with_unfolding_all exact Nat.le_of_ble_eq_true rfl | omega) only [r_add, r_sub, r_mulL, r_mulR, r_mod, r_fdiv, r_divmod, r_pint, r_pintb, r_abs, r_min2, r_max2, r_lent, r_lenl, r_lens, r_lenr, r_tupl, r_tupt, r_negi, r_trub, r_trui, r_lt, r_le, r_gt, r_ge, r_isb, r_isnb, r_idxt, r_idxl, r_idxs, r_idxr, r_atT, r_at0, r_at1, r_at2, r_ix30, r_ix31, r_ix32, r_mkF, r_mkT, r_itt, r_itl, r_its, r_itr, r_stt, r_stl, r_sts, r_isii, r_isib, r_isit, r_isil, r_isis, r_k1, r_k2, r_k3, r_k4, r_k5, r_k6, r_k7, r_k8, r_k9, r_k10, r_k11, r_k12, r_k13, r_k14, r_k15, r_wi0, r_wi1, r_bin0, r_line, r_frzb, r_frzi, r_frzn, r_frzs, r_ret, r_no, ↓r_bnd, r_newO, r_getO, r_getO_set, r_setO, r_setO_set, r_ite, r_nox, ↓w_es0, ↓w_es1, ↓w_cO0, ↓w_cO1, ↓w_ifs0, ↓w_ifs1, ↓w_var, ↓w_con, ↓w_glob, ↓w_bin, ↓w_neg, ↓w_not, ↓w_and, ↓w_or, ↓w_ite, ↓w_cmp, ↓w_cmp2, ↓w_cmp3, ↓w_eqo, ↓w_tup, ↓w_lst, ↓w_idx, ↓w_slc, ↓w_fld, ↓w_call, ↓w_make, ↓w_meth, ↓w_prim, ↓w_isi, ↓w_bm, ↓w_lc, ↓w_rng, ↓w_enum, ↓w_zip, ↓w_seq, ↓w_gName, ↓w_gs0, ↓w_gs1, ↓w_gTup, ↓w_gTupL, ↓w_gSub, ↓w_gFld, ↓w_ss0, ↓w_ss1, ↓w_expr, ↓w_asg, ↓w_aug, ↓w_sret, ↓w_sif, ↓w_rai, ↓w_pass, ↓w_for, ↓w_runS, r_lineN, r_lentri, r_lenrow, r_tri, r_tri1, r_tri0, r_row, r_row1, r_row0, r_isitri, r_isirow, r_sort3, r_mid, r_n1, r_n0, ↓w_rngN, r_tupr, r_frztri, r_frzrow, ↓w_app0, r_cuttri, r_ittri, r_itrow, r_sttri, r_strow, r_atlast, r_put0, r_put10, r_fld0, r_fld1, r_isgrd, r_clsgrd, r_cutrow, r_eqi, r_nei, r_eqb, ↓w_lc2, ↓r_rng, ↓w_bme, ↓w_app, ↓w_ext, r_sortp, r_zip1, r_zip0, r_sort3, r_eql3, r_allT, r_alll, r_addl, r_addt, bd_qlaw, bd_l_right, bd_l_middles_right, bd_l_dip, bd_qmiddle, bi_qmiddle_0, bi_qmiddle_1, bd_qcheck_number, bd_qis_whole, bd_qmiddle_of, bd_l_is_whole, bd_l_rows, bd_l_size, bd_qGround_init, bd_qcheck_rows, bd_qis_row, bd_l_floors, bd_l_over, bd_qfloors, bi_qfloors_0, bd_qcheck_ground, bd_qfloors_of, bd_qnext_rows, bd_qtop, bi_qtop_0, bd_qtop_of, bd_qGround_put, bd_qcheck_spot, bd_qis_spot_of, bd_qis_within, bd_l_jar, bd_l_cell, bd_qGround_eq, gl_0, ↓bnd_ret, ↓bnd_no, ofO_some, Option.bind_some, id, List.getElem?_cons_zero, List.getElem?_cons_succ, List.set_cons_zero, List.set_cons_succ, List.length_cons, List.length_nil, if_true, if_false, Bool.false_eq_true, List.map_cons, List.map_nil, List.cons_append, List.nil_append, List.append_nil, List.replicate_succ, List.replicate_zero, ↓reduceIte, Bool.not_true, Bool.not_false, decide_true, decide_false, Nat.reduceAdd, Nat.reduceLT, Nat.reduceLeDiff, List.length_set, true_and, and_true, Int.cast_ofNat_Int, eq_self, hc]
    refine (jar2 is_l_jar c (by decide)).mono ?_
    rintro _ h1 ⟨rfl, a, b, c, rfl⟩
    simp (config := {maxSteps := 3000000}) (disch := first | assumption | with_unfolding_all exact id rfl | with_unfolding_all exact Nat.le_of_ble_eq_true rfl | omega) only [r_add, r_sub, r_mulL, r_mulR, r_mod, r_fdiv, r_divmod, r_pint, r_pintb, r_abs, r_min2, r_max2, r_lent, r_lenl, r_lens, r_lenr, r_tupl, r_tupt, r_negi, r_trub, r_trui, r_lt, r_le, r_gt, r_ge, r_isb, r_isnb, r_idxt, r_idxl, r_idxs, r_idxr, r_atT, r_at0, r_at1, r_at2, r_ix30, r_ix31, r_ix32, r_mkF, r_mkT, r_itt, r_itl, r_its, r_itr, r_stt, r_stl, r_sts, r_isii, r_isib, r_isit, r_isil, r_isis, r_k1, r_k2, r_k3, r_k4, r_k5, r_k6, r_k7, r_k8, r_k9, r_k10, r_k11, r_k12, r_k13, r_k14, r_k15, r_wi0, r_wi1, r_bin0, r_line, r_frzb, r_frzi, r_frzn, r_frzs, r_ret, r_no, ↓r_bnd, r_newO, r_getO, r_getO_set, r_setO, r_setO_set, r_ite, r_nox, ↓w_es0, ↓w_es1, ↓w_cO0, ↓w_cO1, ↓w_ifs0, ↓w_ifs1, ↓w_var, ↓w_con, ↓w_glob, ↓w_bin, ↓w_neg, ↓w_not, ↓w_and, ↓w_or, ↓w_ite, ↓w_cmp, ↓w_cmp2, ↓w_cmp3, ↓w_eqo, ↓w_tup, ↓w_lst, ↓w_idx, ↓w_slc, ↓w_fld, ↓w_call, ↓w_make, ↓w_meth, ↓w_prim, ↓w_isi, ↓w_bm, ↓w_lc, ↓w_rng, ↓w_enum, ↓w_zip, ↓w_seq, ↓w_gName, ↓w_gs0, ↓w_gs1, ↓w_gTup, ↓w_gTupL, ↓w_gSub, ↓w_gFld, ↓w_ss0, ↓w_ss1, ↓w_expr, ↓w_asg, ↓w_aug, ↓w_sret, ↓w_sif, ↓w_rai, ↓w_pass, ↓w_for, ↓w_runS, r_lineN, r_lentri, r_lenrow, r_tri, r_tri1, r_tri0, r_row, r_row1, r_row0, r_isitri, r_isirow, r_sort3, r_mid, r_n1, r_n0, ↓w_rngN, r_tupr, r_frztri, r_frzrow, ↓w_app0, r_cuttri, r_ittri, r_itrow, r_sttri, r_strow, r_atlast, r_put0, r_put10, r_fld0, r_fld1, r_isgrd, r_clsgrd, r_cutrow, r_eqi, r_nei, r_eqb, ↓w_lc2, ↓r_rng, ↓w_bme, ↓w_app, ↓w_ext, r_sortp, r_zip1, r_zip0, r_sort3, r_eql3, r_allT, r_alll, r_addl, r_addt, bd_qlaw, bd_l_right, bd_l_middles_right, bd_l_dip, bd_qmiddle, bi_qmiddle_0, bi_qmiddle_1, bd_qcheck_number, bd_qis_whole, bd_qmiddle_of, bd_l_is_whole, bd_l_rows, bd_l_size, bd_qGround_init, bd_qcheck_rows, bd_qis_row, bd_l_floors, bd_l_over, bd_qfloors, bi_qfloors_0, bd_qcheck_ground, bd_qfloors_of, bd_qnext_rows, bd_qtop, bi_qtop_0, bd_qtop_of, bd_qGround_put, bd_qcheck_spot, bd_qis_spot_of, bd_qis_within, bd_l_jar, bd_l_cell, bd_qGround_eq, gl_0, ↓bnd_ret, ↓bnd_no, ofO_some, Option.bind_some, id, List.getElem?_cons_zero, List.getElem?_cons_succ, List.set_cons_zero, List.set_cons_succ, List.length_cons, List.length_nil, if_true, if_false, Bool.false_eq_true, List.map_cons, List.map_nil, List.cons_append, List.nil_append, List.append_nil, List.replicate_succ, List.replicate_zero, ↓reduceIte, Bool.not_true, Bool.not_false, decide_true, decide_false, Nat.reduceAdd, Nat.reduceLT, Nat.reduceLeDiff, List.length_set, true_and, and_true, Int.cast_ofNat_Int, eq_self]
    refine (f_right (Jr.new j a b c) (by decide)).mono ?_
    rintro _ h2 ⟨rfl, j2, m2⟩
    simp (config := {maxSteps := 3000000}) (disch := first | assumption | with_unfolding_all exact id rfl | with_unfolding_all exact Nat.le_of_ble_eq_true rfl | omega) only [r_add, r_sub, r_mulL, r_mulR, r_mod, r_fdiv, r_divmod, r_pint, r_pintb, r_abs, r_min2, r_max2, r_lent, r_lenl, r_lens, r_lenr, r_tupl, r_tupt, r_negi, r_trub, r_trui, r_lt, r_le, r_gt, r_ge, r_isb, r_isnb, r_idxt, r_idxl, r_idxs, r_idxr, r_atT, r_at0, r_at1, r_at2, r_ix30, r_ix31, r_ix32, r_mkF, r_mkT, r_itt, r_itl, r_its, r_itr, r_stt, r_stl, r_sts, r_isii, r_isib, r_isit, r_isil, r_isis, r_k1, r_k2, r_k3, r_k4, r_k5, r_k6, r_k7, r_k8, r_k9, r_k10, r_k11, r_k12, r_k13, r_k14, r_k15, r_wi0, r_wi1, r_bin0, r_line, r_frzb, r_frzi, r_frzn, r_frzs, r_ret, r_no, ↓r_bnd, r_newO, r_getO, r_getO_set, r_setO, r_setO_set, r_ite, r_nox, ↓w_es0, ↓w_es1, ↓w_cO0, ↓w_cO1, ↓w_ifs0, ↓w_ifs1, ↓w_var, ↓w_con, ↓w_glob, ↓w_bin, ↓w_neg, ↓w_not, ↓w_and, ↓w_or, ↓w_ite, ↓w_cmp, ↓w_cmp2, ↓w_cmp3, ↓w_eqo, ↓w_tup, ↓w_lst, ↓w_idx, ↓w_slc, ↓w_fld, ↓w_call, ↓w_make, ↓w_meth, ↓w_prim, ↓w_isi, ↓w_bm, ↓w_lc, ↓w_rng, ↓w_enum, ↓w_zip, ↓w_seq, ↓w_gName, ↓w_gs0, ↓w_gs1, ↓w_gTup, ↓w_gTupL, ↓w_gSub, ↓w_gFld, ↓w_ss0, ↓w_ss1, ↓w_expr, ↓w_asg, ↓w_aug, ↓w_sret, ↓w_sif, ↓w_rai, ↓w_pass, ↓w_for, ↓w_runS, r_lineN, r_lentri, r_lenrow, r_tri, r_tri1, r_tri0, r_row, r_row1, r_row0, r_isitri, r_isirow, r_sort3, r_mid, r_n1, r_n0, ↓w_rngN, r_tupr, r_frztri, r_frzrow, ↓w_app0, r_cuttri, r_ittri, r_itrow, r_sttri, r_strow, r_atlast, r_put0, r_put10, r_fld0, r_fld1, r_isgrd, r_clsgrd, r_cutrow, r_eqi, r_nei, r_eqb, ↓w_lc2, ↓r_rng, ↓w_bme, ↓w_app, ↓w_ext, r_sortp, r_zip1, r_zip0, r_sort3, r_eql3, r_allT, r_alll, r_addl, r_addt, bd_qlaw, bd_l_right, bd_l_middles_right, bd_l_dip, bd_qmiddle, bi_qmiddle_0, bi_qmiddle_1, bd_qcheck_number, bd_qis_whole, bd_qmiddle_of, bd_l_is_whole, bd_l_rows, bd_l_size, bd_qGround_init, bd_qcheck_rows, bd_qis_row, bd_l_floors, bd_l_over, bd_qfloors, bi_qfloors_0, bd_qcheck_ground, bd_qfloors_of, bd_qnext_rows, bd_qtop, bi_qtop_0, bd_qtop_of, bd_qGround_put, bd_qcheck_spot, bd_qis_spot_of, bd_qis_within, bd_l_jar, bd_l_cell, bd_qGround_eq, gl_0, ↓bnd_ret, ↓bnd_no, ofO_some, Option.bind_some, id, List.getElem?_cons_zero, List.getElem?_cons_succ, List.set_cons_zero, List.set_cons_succ, List.length_cons, List.length_nil, if_true, if_false, Bool.false_eq_true, List.map_cons, List.map_nil, List.cons_append, List.nil_append, List.append_nil, List.replicate_succ, List.replicate_zero, ↓reduceIte, Bool.not_true, Bool.not_false, decide_true, decide_false, Nat.reduceAdd, Nat.reduceLT, Nat.reduceLeDiff, List.length_set, true_and, and_true, Int.cast_ofNat_Int, eq_self]
    exact ⟨j2.cl, _, rfl, rfl⟩
  · rintro ys h ⟨c, ly, hy⟩
    have l3 : ys.length ≤ sizeLine := by
      rw [ly, List.length_map, List.length_range]
      split <;> (try split) <;> omega
    have ea := all_true false hy
    simp (config := {maxSteps := 3000000}) (disch := first | assumption | with_unfolding_all exact id rfl | with_unfolding_all exact Nat.le_of_ble_eq_true rfl | omega) only [r_add, r_sub, r_mulL, r_mulR, r_mod, r_fdiv, r_divmod, r_pint, r_pintb, r_abs, r_min2, r_max2, r_lent, r_lenl, r_lens, r_lenr, r_tupl, r_tupt, r_negi, r_trub, r_trui, r_lt, r_le, r_gt, r_ge, r_isb, r_isnb, r_idxt, r_idxl, r_idxs, r_idxr, r_atT, r_at0, r_at1, r_at2, r_ix30, r_ix31, r_ix32, r_mkF, r_mkT, r_itt, r_itl, r_its, r_itr, r_stt, r_stl, r_sts, r_isii, r_isib, r_isit, r_isil, r_isis, r_k1, r_k2, r_k3, r_k4, r_k5, r_k6, r_k7, r_k8, r_k9, r_k10, r_k11, r_k12, r_k13, r_k14, r_k15, r_wi0, r_wi1, r_bin0, r_line, r_frzb, r_frzi, r_frzn, r_frzs, r_ret, r_no, ↓r_bnd, r_newO, r_getO, r_getO_set, r_setO, r_setO_set, r_ite, r_nox, ↓w_es0, ↓w_es1, ↓w_cO0, ↓w_cO1, ↓w_ifs0, ↓w_ifs1, ↓w_var, ↓w_con, ↓w_glob, ↓w_bin, ↓w_neg, ↓w_not, ↓w_and, ↓w_or, ↓w_ite, ↓w_cmp, ↓w_cmp2, ↓w_cmp3, ↓w_eqo, ↓w_tup, ↓w_lst, ↓w_idx, ↓w_slc, ↓w_fld, ↓w_call, ↓w_make, ↓w_meth, ↓w_prim, ↓w_isi, ↓w_bm, ↓w_lc, ↓w_rng, ↓w_enum, ↓w_zip, ↓w_seq, ↓w_gName, ↓w_gs0, ↓w_gs1, ↓w_gTup, ↓w_gTupL, ↓w_gSub, ↓w_gFld, ↓w_ss0, ↓w_ss1, ↓w_expr, ↓w_asg, ↓w_aug, ↓w_sret, ↓w_sif, ↓w_rai, ↓w_pass, ↓w_for, ↓w_runS, r_lineN, r_lentri, r_lenrow, r_tri, r_tri1, r_tri0, r_row, r_row1, r_row0, r_isitri, r_isirow, r_sort3, r_mid, r_n1, r_n0, ↓w_rngN, r_tupr, r_frztri, r_frzrow, ↓w_app0, r_cuttri, r_ittri, r_itrow, r_sttri, r_strow, r_atlast, r_put0, r_put10, r_fld0, r_fld1, r_isgrd, r_clsgrd, r_cutrow, r_eqi, r_nei, r_eqb, ↓w_lc2, ↓r_rng, ↓w_bme, ↓w_app, ↓w_ext, r_sortp, r_zip1, r_zip0, r_sort3, r_eql3, r_allT, r_alll, r_addl, r_addt, bd_qlaw, bd_l_right, bd_l_middles_right, bd_l_dip, bd_qmiddle, bi_qmiddle_0, bi_qmiddle_1, bd_qcheck_number, bd_qis_whole, bd_qmiddle_of, bd_l_is_whole, bd_l_rows, bd_l_size, bd_qGround_init, bd_qcheck_rows, bd_qis_row, bd_l_floors, bd_l_over, bd_qfloors, bi_qfloors_0, bd_qcheck_ground, bd_qfloors_of, bd_qnext_rows, bd_qtop, bi_qtop_0, bd_qtop_of, bd_qGround_put, bd_qcheck_spot, bd_qis_spot_of, bd_qis_within, bd_l_jar, bd_l_cell, bd_qGround_eq, gl_0, ↓bnd_ret, ↓bnd_no, ofO_some, Option.bind_some, id, List.getElem?_cons_zero, List.getElem?_cons_succ, List.set_cons_zero, List.set_cons_succ, List.length_cons, List.length_nil, if_true, if_false, Bool.false_eq_true, List.map_cons, List.map_nil, List.cons_append, List.nil_append, List.append_nil, List.replicate_succ, List.replicate_zero, ↓reduceIte, Bool.not_true, Bool.not_false, decide_true, decide_false, Nat.reduceAdd, Nat.reduceLT, Nat.reduceLeDiff, List.length_set, true_and, and_true, Int.cast_ofNat_Int, eq_self, l3, ea]
end K13
theorem K13.done (ns : List Int) (hl : ns.length ≤ 63) : ∃ h', Mt.callN K13.b.P 60 .qlaw [.scr ns] [] = .ok (.bl true) h' := ⟨[], by
  rw [← K13.sh_eq, K13.f_law ns hl]; rfl⟩

set_option maxHeartbeats 0
namespace K13
open PySem PySem.Spec PyProof.Rows L2 Mt
abbrev R : PySem.W.OpenRow := PySem.W.OpenLaw.row PySem.Challenge.rw_midtower_k13_middles_and_floors
abbrev hk : PySem.W.Hook := hookM 5 b.ex b.fa b.fn
def ob (s : PySem.W.SharedT) : He.AlD := obsMG 5 b.ex b.fa b.fn (HandSHeadRun.getT s)
theorem ob_eq (s : PySem.W.SharedT) : ob s = hk.obs s.abs := obsMG_eq (HandSHeadRun.getT_eq s)
def loose0 : List Str := ["_wall", "__name__", "TowerError", "NoSpot", "NoGround", "NoNumber", "is_whole", "is_within", "check_number", "MOST_SIZE", "is_spot_of", "check_spot", "is_row", "check_rows", "row_text"]
def loose1 : List Str := ["Ground", "check_ground", "middle_of", "next_rows", "floors_of", "top_of", "middle", "floors", "top", "_law_cell", "_law_jar", "_law_dip", "_law_size", "_law_rows", "_law_over"]
def loose2 : List Str := ["_law_floors", "_law_is_whole", "_law_middles_right", "_law_right"]
def loose : List Str := loose0 ++ (loose1 ++ (loose2))
theorem run (w : World) : HandSHeadRun.RunEq R (PySem.W.view R.prog [39]) hk ob 3000 loose w := by
  intro os
  kernel_rfl
end K13
open PySem PySem.W PySem.Calls PyProof.Rows
theorem K13.holds (hM : ∀ ns : List Int, ns.length ≤ 63 → ∃ h', Mt.callN K13.b.P 60 .qlaw [.scr ns] [] = .ok (.bl true) h') : PySem.Challenge.rw_midtower_k13_middles_and_floors.Holds := by
  w_on; o_law
  refine HandSHeadRun.head_any (r := OpenLaw.row PySem.Challenge.rw_midtower_k13_middles_and_floors) (q := view (OpenLaw.row PySem.Challenge.rw_midtower_k13_middles_and_floors).prog [39]) (H := K13.hk) (ob := K13.ob) (M := 3000) (loose := K13.loose) (d := HandSHeadRun.topDef (OpenLaw.row PySem.Challenge.rw_midtower_k13_middles_and_floors).prog 39) (kwd := []) K13.ob_eq
    (by kernel_rfl) (fun s => by kernel_rfl) K13.run (by kernel_rfl) (by kernel_rfl) (by kernel_rfl) (by rfl) (by first | assumption | decide +kernel) (by decide +kernel) ⟨rfl, rfl, rfl, rfl, rfl, by decide +kernel⟩ ?hw ?hc
  case hw => w_witness2
  case hc =>
    refine Mt.walk_ofG (l := PySem.Challenge.rw_midtower_k13_middles_and_floors) (n := 63) (k := 60) (x := "_law_script") rfl (by decide) (by kernel_rfl) ⟨rfl, by decide, by decide⟩ ?F
    intro w mg fa h Y G hmg0
    obtain ⟨K, KX, c⟩ := Y
    have e : (HandSHeadRun.topDef (OpenLaw.row PySem.Challenge.rw_midtower_k13_middles_and_floors).prog 39).name = ("law" : PySem.Str) := by kernel_rfl
    rw [e] at hmg0
    have e2 := hmg0.symm.trans ((Mt.Lw.glO K13.txt c KX G).gfO "law" .qlaw (by decide +kernel))
    cases e2
    refine ⟨K, _, _, KX, fun s u => ?_, fun H a ns hl _ h0 => Mt.law_sp (k := 60) (f := K13.Q.qlaw) (N := Mt.Lw.N K13.txt c) (D := Mt.Lw.D K13.txt c) h0 (hM ns hl), Mt.Lw.law K13.txt c KX G 60 .qlaw⟩
    exact L2.FunD.bindsA (ps := ["_law_script"]) (Mt.Lw.funD K13.txt c .qlaw).choose_spec (fun _ _ _ _ _ _ us hl => match us, hl with | [_], _ => rfl) s [u] rfl

theorem PySem.Challenge.cw_midtower_k13_middles_and_floors_holds : PySem.Challenge.rw_midtower_k13_middles_and_floors.Holds := by
  exact K13.holds K13.done
