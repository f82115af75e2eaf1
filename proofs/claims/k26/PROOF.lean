import PyProof.Rows.All
import Wide.All
import OpenK.AllK
import Wide.FinOn
import PySem.PyData
import PyProof.Claim2
import PyProof.P3Statements
import PyProof.EqLayable
import KE.SortData
import HandS.List
import HandS.TupLe
import KE.DataMinMax
import HandS.ForMost
import HandS.Lambda
import HandS.Star
import HandS.TupMul
import HandS.TupAny
import HandS.IsInst
import HandS.Style
import HandS.Conv
import HandS.Deep
import HandS.SetFor
import HandS.Zip
import HandS.RaiseMore
import HandS.Wide
import HandS.SortInts
import HandS.Flow
import KE.IntBitsLaws
import HandS.Small
import HandS.More
import HandS.SortKw
import KE.SortKeyHeap
import KE.KIndexOf
import KE.KTupSum
import KE.GoesMore
import PyProof.EnumMake
import PyProof.Draws
import PyProof.EqAt
import PyProof.EqKinds
import PyProof.TupleCall
import KE.KExcInit
import HandS.Exc
import HandS.ExcOwn
import HandS.TryMany
import HandS.ExcField
import HandS.TryOnly
import HandS.Words
import HandS.CallLocal
import HandS.DictComp
import KE.DataMinKey
import HandS.WideMore
import HandS.CallSlots
import HandS.WordsExc
import KE.KEqDeep
import HandS.EndTab
import PyProof.P3Eq
import PySem.Challenge.RW_loadwide_k26_errors_of_two_hands
set_option Elab.async false
set_option linter.all false
set_option maxRecDepth 100000
set_option maxHeartbeats 4000000
set_option autoImplicit false
/-! Ev1: a small evaluator over plain data (the value semantics that the laws' defs have). -/
namespace Ev
open PySem
abbrev PV := PyData
/-- the largest length -/
def lim : Nat := 16777216

/-- a local name: nothing; a value that nobody changes; a list or dict of this name alone; such a one that the caller lent -/
inductive Slot where
  | emp | frz (v : PV) | own (v : PV) | io (v : PV) | fn (f : Nat)
abbrev Env := List Slot
/-- what an expression gives: a value; a new list or dict; the thing a name holds, as it stands -/
inductive Rv where
  | frz (v : PV) | own (v : PV) | slot (i : Nat)

/-- the outcome: a result and the names behind it; an exception; nothing told -/
inductive RE (α : Type) where
  | ok (a : α) (s : Env) | exc (c : Nat) (v : PV) | stuck
abbrev M (α : Type) := Env → RE α
def M.pure {α : Type} (a : α) : M α := fun s => .ok a s
def RE.andThen {α β : Type} (r : RE α) (f : α → M β) : RE β := match r with
  | .ok a s => f a s
  | .exc c v => .exc c v
  | .stuck => .stuck
def M.bind {α β : Type} (m : M α) (f : α → M β) : M β := fun s => (m s).andThen f
def M.stuck {α : Type} : M α := fun _ => .stuck
def M.opt {α : Type} (o : Option α) : M α := fun s => match o with
  | some a => .ok a s
  | none => .stuck
instance : Monad M where
  pure := M.pure
  bind := M.bind
theorem bind_def {α β : Type} (m : M α) (f : α → M β) (s : Env) : (m >>= f) s = (m s).andThen f := rfl
theorem pure_def {α : Type} (a : α) (s : Env) : (pure a : M α) s = .ok a s := rfl
theorem andThen_ok {α β : Type} (a : α) (s : Env) (f : α → M β) : (RE.ok a s).andThen f = f a s := rfl
theorem andThen_stuck {α β : Type} (f : α → M β) : (RE.stuck : RE α).andThen f = .stuck := rfl
theorem opt_some {α : Type} (a : α) (s : Env) : M.opt (some a) s = .ok a s := rfl
theorem opt_none {α : Type} (s : Env) : M.opt (none : Option α) s = .stuck := rfl
theorem stuck_def {α : Type} (s : Env) : (M.stuck : M α) s = .stuck := rfl
/-- what an .ok behind a bind means -/
theorem RE.andThen_inv {α β : Type} {r : RE α} {f : α → M β} {b : β} {s : Env} (h : r.andThen f = .ok b s) : ∃ a s1, r = .ok a s1 ∧ f a s1 = .ok b s := by
  cases r with
  | ok a s1 => exact ⟨a, s1, rfl, h⟩
  | exc c v => cases h
  | stuck => cases h
theorem bind_inv {α β : Type} {m : M α} {f : α → M β} {b : β} {s s' : Env} (h : (m >>= f) s = .ok b s') : ∃ a s1, m s = .ok a s1 ∧ f a s1 = .ok b s' := RE.andThen_inv h
theorem opt_inv {α : Type} {o : Option α} {a : α} {s s' : Env} (h : M.opt o s = .ok a s') : o = some a ∧ s' = s := by
  cases o with
  | none => cases h
  | some b => injection h with h1 h2; exact ⟨by rw [h1], h2.symm⟩
theorem pure_inv {α : Type} {a b : α} {s s' : Env} (h : (pure a : M α) s = .ok b s') : b = a ∧ s' = s := by
  injection h with h1 h2; exact ⟨h1.symm, h2.symm⟩

/-- the script, as its own kind of thing: nothing but len and items -/
def scriptV (ns : List Int) : PV := .dict [(.none, .list (ns.map .int))]

/-! ### names -/
def flat : PV → Bool
  | .none => true | .bool _ => true | .int _ => true | .str _ => true
  | _ => false
def slotVal : Slot → Option PV
  | .emp => none
  | .frz v => some v
  | .own v => some v
  | .io v => some v
  | .fn _ => none
/-- a name's value as it stands -/
def look (i : Nat) : M PV := fun s => M.opt ((s[i]?).bind slotVal) s
/-- a name read for good: what it holds is never changed from here on -/
def mVar (i : Nat) : M Rv := fun s => match s[i]? with
  | some (.frz v) => .ok (.frz v) s
  | some (.own v) => .ok (.frz v) (s.set i (.frz v))
  | _ => .stuck
/-- a name read for the last time -/
def mMv (i : Nat) : M Rv := fun s => match s[i]? with
  | some (.frz v) => .ok (.frz v) s
  | some (.own v) => .ok (.own v) (s.set i .emp)
  | _ => .stuck
def mPeek (i : Nat) : M Rv := fun s => match s[i]? with
  | some (.frz v) => .ok (.frz v) s
  | some (.own _) => .ok (.slot i) s
  | some (.io _) => .ok (.slot i) s
  | _ => .stuck
/-- an operand's value -/
def opd : Rv → M PV
  | .frz v => pure v
  | .own v => pure v
  | .slot i => look i
/-- a value for good -/
def fz : Rv → M PV
  | .frz v => pure v
  | .own v => pure v
  | .slot _ => M.stuck
def opds : List Rv → M (List PV)
  | [] => pure []
  | r :: rs => do let v ← opd r; let vs ← opds rs; pure (v :: vs)
def fzs : List Rv → M (List PV)
  | [] => pure []
  | r :: rs => do let v ← fz r; let vs ← fzs rs; pure (v :: vs)
/-- a name stored -/
def store (i : Nat) (r : Rv) : M Unit := fun s => match s[i]?, r with
  | some (.io _), _ => .stuck
  | none, _ => .stuck
  | some _, .frz v => .ok () (s.set i (.frz v))
  | some _, .own v => .ok () (s.set i (.own v))
  | some _, .slot _ => .stuck

/-! ### dicts: the keys are ints and texts -/
def keyQ : PV → Option (Sum Int Str)
  | .int i => some (.inl i)
  | .str x => some (.inr x)
  | _ => none
def isK : Sum Int Str → PV → Bool
  | .inl i, .int j => decide (j = i)
  | .inr x, .str y => decide (y = x)
  | _, _ => false
def getK (kvs : List (PV × PV)) (q : Sum Int Str) : Option PV := (kvs.find? fun p => isK q p.1).map (·.2)
def putD (kvs : List (PV × PV)) (k : PV) (q : Sum Int Str) (v : PV) : List (PV × PV) :=
  if (kvs.any fun p => isK q p.1) = true then kvs.map (fun p => if isK q p.1 = true then (p.1, v) else p) else kvs ++ [(k, v)]
/-- the keys, if they are ints -/
def intKeys : List (PV × PV) → Option (List Int)
  | [] => some []
  | (.int i, _) :: r => (intKeys r).map (i :: ·)
  | _ :: _ => none

/-! ### operators -/
def ints? : List PV → Option (List Int)
  | [] => some []
  | .int i :: r => (ints? r).map (i :: ·)
  | _ :: _ => none
def bools? : List PV → Option (List Bool)
  | [] => some []
  | .bool b :: r => (bools? r).map (b :: ·)
  | _ :: _ => none
def mulOk (i j : Int) : Bool := decide (i.natAbs < 2 ^ 64) || decide (j.natAbs < 2 ^ 64) || (decide (i.natAbs < 2 ^ 4000) && decide (j.natAbs < 2 ^ 4000))
def powOk (i j : Int) : Bool := decide (0 ≤ j) && decide (j ≤ 1000) && decide (i.natAbs < 2 ^ 1000)
def binOp : Operator → PV → PV → Option Rv
  | .Add, .int i, .int j => some (.frz (.int (i + j)))
  | .Add, .tuple xs, .tuple ys => if xs.length + ys.length ≤ lim then some (.frz (.tuple (xs ++ ys))) else none
  | .Add, .list xs, .list ys => if xs.length + ys.length ≤ lim then some (.own (.list (xs ++ ys))) else none
  | .Add, .str a, .str b => if a.length + b.length ≤ lim then some (.frz (.str (a ++ b))) else none
  | .Sub, .int i, .int j => some (.frz (.int (i - j)))
  | .Mult, .int i, .int j => if mulOk i j then some (.frz (.int (i * j))) else none
  | .Mult, .tuple xs, .int k => if xs ≠ [] ∧ 2 ≤ k ∧ k ≤ 1000 ∧ xs.length ≤ 1000 then some (.frz (.tuple (List.replicate k.toNat xs).flatten)) else if (xs = [] ∨ k = 1) ∧ -1000 ≤ k ∧ k ≤ 1000 then some (.frz (.tuple xs)) else none
  | .Mult, .list xs, .int k => if -1000 ≤ k ∧ k ≤ 1000 ∧ xs.length ≤ 1000 then some (.own (.list (List.replicate k.toNat xs).flatten)) else none
  | .FloorDiv, .int i, .int j => if 0 < j ∧ j < 2 ^ 4000 then some (.frz (.int (i / j))) else none
  | .Mod, .int i, .int j => if 0 < j then some (.frz (.int (i % j))) else none
  | .Pow, .int i, .int j => if powOk i j then some (.frz (.int (i ^ j.toNat))) else none
  | .LShift, .int i, .int j => if 0 ≤ j ∧ j ≤ 1000 ∧ i.natAbs < 2 ^ 64 then some (.frz (.int (i * 2 ^ j.toNat))) else none
  | .RShift, .int i, .int j => if 0 ≤ j then some (.frz (.int (i / 2 ^ j.toNat))) else none
  | .BitAnd, .int i, .int j => some (.frz (.int (Builtin.bitAnd i j)))
  | .BitOr, .int i, .int j => some (.frz (.int (Builtin.bitOr i j)))
  | _, _, _ => none
def eqOp (a b : PV) : Option Bool := if SeqAt.shaped a && SeqAt.shaped b then some (PyData.eqv a b) else none
def inOp (x : PV) : PV → Option Bool
  | .list ys => if SeqAt.shaped x && SeqAt.shaped (.list ys) then some (ys.any fun y => PyData.eqv y x) else none
  | .tuple ys => if flat x && ys.all flat then some (ys.any fun y => PyData.eqv y x) else none
  | .dict [(.none, _)] => none
  | .dict kvs => (keyQ x).map fun q => (getK kvs q).isSome
  | _ => none
/-- two tuples of ints -/
def tupCmp (rel : Int → Int → Bool) (lenr : Nat → Nat → Bool) (xs ys : List PV) : Option Bool := match ints? xs, ints? ys with
  | some ns, some ms => some (Ob.lexAt (fun j => decide (ns.getD j 0 = ms.getD j 0)) (fun j => rel (ns.getD j 0) (ms.getD j 0)) (lenr ns.length ms.length) 0 (min ns.length ms.length))
  | _, _ => none
def isNone : PV → Bool
  | .none => true
  | _ => false
def cmpOp : CmpOp → PV → PV → Option Bool
  | .Eq, .tuple xs, .tuple [] => some xs.isEmpty
  | .Eq, a, b => eqOp a b
  | .NotEq, a, b => (eqOp a b).map (!·)
  | .Lt, .int i, .int j => some (decide (i < j))
  | .LtE, .int i, .int j => some (decide (i ≤ j))
  | .Gt, .int i, .int j => some (decide (j < i))
  | .GtE, .int i, .int j => some (decide (j ≤ i))
  | .Lt, .tuple xs, .tuple ys => tupCmp (fun a b => decide (a < b)) (fun a b => decide (a < b)) xs ys
  | .LtE, .tuple xs, .tuple ys => tupCmp (fun a b => decide (a ≤ b)) (fun a b => decide (a ≤ b)) xs ys
  | .Gt, .tuple xs, .tuple ys => tupCmp (fun a b => decide (b < a)) (fun a b => decide (a > b)) xs ys
  | .GtE, .tuple xs, .tuple ys => tupCmp (fun a b => decide (b ≤ a)) (fun a b => decide (a ≥ b)) xs ys
  | .Is, a, .none => some (isNone a)
  | .IsNot, a, .none => some (!isNone a)
  | .Is, .bool a, .bool b => some (a == b)
  | .IsNot, .bool a, .bool b => some (!(a == b))
  | .In, a, b => inOp a b
  | .NotIn, a, b => (inOp a b).map (!·)
  | _, _, _ => none
def truth : PV → Option Bool
  | .none => some false
  | .bool b => some b
  | .int i => some (decide (i ≠ 0))
  | .str s => if s.length ≤ lim then some (decide ((s.length : Int) ≠ 0)) else none
  | .list xs => some (!xs.isEmpty)
  | .tuple xs => some (!xs.isEmpty)
  | .dict [(.none, _)] => none
  | .dict kvs => some (!kvs.isEmpty)
/-- built-in classes -/
inductive Ty where
  | int | bool | str | tuple | list | dict
  deriving DecidableEq
def Ty.name : Ty → String
  | .int => "int" | .bool => "bool" | .str => "str" | .tuple => "tuple" | .list => "list" | .dict => "dict"
def isScript : PV → Bool
  | .dict [(.none, _)] => true
  | _ => false
def isiB : Ty → PV → Bool
  | .int, .int _ => true | .int, .bool _ => true | .bool, .bool _ => true | .str, .str _ => true
  | .tuple, .tuple _ => true | .list, .list _ => true | .dict, .dict _ => true
  | _, _ => false
/-- isinstance(v, T) -/
def isiOp (T : Ty) (d : PV) : Option Bool := if isScript d then none else some (isiB T d)

/-- the place of an index -/
def ixN (n : Nat) (i : Int) : Option Nat := if 0 ≤ i then (if i < n then some i.toNat else none) else if -(n : Int) ≤ i then some (i + n).toNat else none
def idxOp : PV → PV → Option PV
  | .list xs, .int i => (ixN xs.length i).bind fun j => xs[j]?
  | .tuple xs, .int i => (ixN xs.length i).bind fun j => xs[j]?
  | .dict [(.none, .list xs)], .int i => (ixN xs.length i).bind fun j => xs[j]?
  | .dict [(.none, _)], _ => none
  | .dict kvs, k => (keyQ k).bind (getK kvs)
  | _, _ => none
/-- a slice's bound -/
def sIx (n d : Nat) : Option Int → Nat
  | none => d
  | some v => if v < 0 then (v + (n : Int)).toNat else min v.toNat n
def cut {α : Type} (xs : List α) (lo hi : Option Int) : List α := (xs.drop (sIx xs.length 0 lo)).take (sIx xs.length xs.length hi - sIx xs.length 0 lo)
def slcOp (lo hi : Option Int) : PV → Option Rv
  | .list xs => some (.own (.list (cut xs lo hi)))
  | .tuple xs => some (.frz (.tuple (cut xs lo hi)))
  | _ => none

/-- sorting that the kernel can run -/
def insB {α : Type} (le : α → α → Bool) (a : α) : List α → List α
  | [] => [a]
  | b :: l => if le a b = true then a :: b :: l else b :: insB le a l
def isort {α : Type} (le : α → α → Bool) : List α → List α
  | [] => []
  | a :: l => insB le a (isort le l)
theorem insB_at {α : Type} {le : α → α → Bool} {a : α} : ∀ {l₁ l₂ : List α}, (∀ b ∈ l₁, (!le a b) = true) → (∀ b ∈ l₂, le a b = true) → insB le a (l₁ ++ l₂) = l₁ ++ a :: l₂
  | [], [], _, _ => rfl
  | [], b :: l, _, h => by
    show (if le a b = true then _ else _) = _
    rw [if_pos (h b (by simp))]; rfl
  | b :: l₁, l₂, h, g => by
    have hb := h b (by simp)
    have ih := insB_at (le := le) (a := a) (l₁ := l₁) (l₂ := l₂) (fun c hc => h c (by simp [hc])) g
    show (if le a b = true then _ else b :: insB le a (l₁ ++ l₂)) = _
    rw [if_neg (by simpa using hb), ih]
    rfl
theorem isort_eq {α : Type} {le : α → α → Bool} (tr : ∀ a b c, le a b = true → le b c = true → le a c = true) (to : ∀ a b, (le a b || le b a) = true) : ∀ l : List α, isort le l = l.mergeSort le
  | [] => by simp [isort]
  | a :: l => by
    obtain ⟨l₁, l₂, h1, h2, h3⟩ := List.mergeSort_cons tr to a l
    rw [isort, isort_eq tr to l, h1, h2]
    refine insB_at h3 fun b hb => ?_
    have hp := List.pairwise_mergeSort tr to (a :: l)
    rw [h1, List.pairwise_append] at hp
    have := hp.2.1
    rw [List.pairwise_cons] at this
    exact this.1 b hb
theorem isort_data (b : Bool) (l : List PV) : isort (W.dataLe b id) l = l.mergeSort (W.dataLe b id) := by
  have T := PySem.W.sortLe_total (PyProof.Rows.listOrd PyProof.Rows.itemOrd) b fun d : PV => PySem.W.keyToks (id d)
  exact isort_eq (fun a b c => T.trans a b c) (fun a c => by rw [Bool.or_eq_true]; exact T.total a c) l
theorem isort_key {β : Type} (b : Bool) (k : β → PV) (l : List β) : isort (W.dataLe b k) l = l.mergeSort (W.dataLe b k) := by
  have T := PySem.W.sortLe_total (PyProof.Rows.listOrd PyProof.Rows.itemOrd) b fun d : β => PySem.W.keyToks (k d)
  exact isort_eq (fun a b c => T.trans a b c) (fun a c => by rw [Bool.or_eq_true]; exact T.total a c) l
theorem isort_int (l : List Int) : isort (fun a b : Int => decide (a ≤ b)) l = l.mergeSort fun a b => decide (a ≤ b) :=
  isort_eq (fun a b c h1 h2 => by simp only [decide_eq_true_eq] at *; omega) (fun a b => by rw [Bool.or_eq_true, decide_eq_true_eq, decide_eq_true_eq]; omega) l
inductive Blt where
  | len | abs | min2 | max2 | mn | mx | sum | all | any | sorted | int | list | tuple | repr
  deriving DecidableEq
/-! no dict within -/
mutual
def plain : PV → Bool
  | .none => true | .bool _ => true | .int _ => true | .str _ => true
  | .list xs => plains xs
  | .tuple xs => plains xs
  | .dict _ => false
def plains : List PV → Bool
  | [] => true
  | x :: xs => plain x && plains xs
end
/-- alike keys, as sorting wants them -/
def sortable (ds : List PV) : Bool := (ds.all fun d => ds.all fun e => W.alike d e) && ((ds.all fun d => match d with | .tuple (_ :: _) => true | _ => false) || (ds.all fun d => match d with | .none => false | .tuple _ => false | _ => true)) && (ds.all fun d => decide (d.depth ≤ 60)) && plains ds
/-- sorted by keys, stably -/
def sortBy (ks xs : List PV) : List PV := (isort (W.dataLe false fun p : PV × PV => p.1) (ks.zip xs)).map (·.2)
def sortKOp (xs : List PV) : Rv → Option Rv
  | .own (.list ks) => if sortable ks && decide (ks.length = xs.length) && decide (ks.length ≤ lim) then some (.own (.list (sortBy ks xs))) else none
  | _ => none
/-- is the i-th key better than the j-th: less, or greater -/
def btK (mx : Bool) (ks : List PV) (i j : Nat) : Bool := if mx then W.dataLt (ks.getD j .none) (ks.getD i .none) else W.dataLt (ks.getD i .none) (ks.getD j .none)
/-- the first of those whose key is the best -/
def bestOf (mx : Bool) (ks xs : List PV) : Option PV := if sortable ks && decide (ks.length = xs.length) && decide (ks.length ≤ lim) then xs[argBest (btK mx ks) (ks.length - 1)]? else none
def bestOp (mx : Bool) (xs : List PV) : Rv → Option Rv
  | .own (.list ks) => (bestOf mx ks xs).map .frz
  | _ => none
def lst? : PV → Option (List PV)
  | .list xs => some xs
  | _ => none
def seq? : PV → Option (List PV)
  | .list xs => some xs
  | .tuple xs => some xs
  | _ => none
def bltOp : Blt → List PV → Option Rv
  | .len, [.list xs] => some (.frz (.int xs.length))
  | .len, [.tuple xs] => some (.frz (.int xs.length))
  | .len, [.dict [(.none, .list xs)]] => some (.frz (.int xs.length))
  | .len, [.dict kvs] => some (.frz (.int kvs.length))
  | .abs, [.int i] => some (.frz (.int (if i < 0 then -i else i)))
  | .min2, [.int i, .int j] => some (.frz (.int (if j < i then j else i)))
  | .max2, [.int i, .int j] => some (.frz (.int (if j > i then j else i)))
  | .mn, [.list xs] => match ints? xs with
    | some ns => ns.min?.map fun m => .frz (.int m)
    | none => (bestOf false xs xs).map .frz
  | .mx, [.list xs] => match ints? xs with
    | some ns => ns.max?.map fun m => .frz (.int m)
    | none => (bestOf true xs xs).map .frz
  | .sum, [.list xs] => (ints? xs).map fun ns => .frz (.int ns.sum)
  | .mn, [.tuple xs] => (ints? xs).bind fun ns => ns.min?.map fun m => .frz (.int m)
  | .mx, [.tuple xs] => (ints? xs).bind fun ns => ns.max?.map fun m => .frz (.int m)
  | .sum, [.tuple xs] => (ints? xs).map fun ns => .frz (.int ns.sum)
  | .all, [.list xs] => (bools? xs).map fun bs => .frz (.bool (bs.all id))
  | .any, [.list xs] => (bools? xs).map fun bs => .frz (.bool (bs.any id))
  | .sorted, [.dict kvs] => (intKeys kvs).bind fun ks => if ks.length < 64 then some (.own (.list ((isort (fun a b => decide (a ≤ b)) ks).map .int))) else none
  | .sorted, [x] => (seq? x).bind fun ds => if sortable ds then some (.own (.list (isort (W.dataLe false id) ds))) else none
  | .int, [.int i] => some (.frz (.int i))
  | .int, [.bool b] => some (.frz (.int (if b then 1 else 0)))
  | .list, [x] => (seq? x).map fun xs => .own (.list xs)
  | .tuple, [x] => (seq? x).map fun xs => .frz (.tuple xs)
  | .repr, [.bool b] => some (.frz (.str (if b then "True" else "False")))
  | _, _ => none
def isRef : PV → Bool
  | .list _ => true | .tuple _ => true | _ => false
def reprOp (v : PV) : Option Rv := match v with
  | .int i => if i.natAbs.log2 < 1920 then some (.frz (.str v.shown)) else none
  | .dict [] => some (.frz (.str (PyData.dict []).shown))
  | _ => if plain v && PyData.showable v && decide (v.shown.length ≤ lim) && decide (v.depth ≤ 60) then some (.frz (.str v.shown)) else none
def isListV : PV → Bool
  | .list _ => true
  | _ => false
def isSeqV : PV → Bool
  | .list _ => true
  | .tuple _ => true
  | _ => false
inductive Mth where
  | count | index
  deriving DecidableEq
def mthOp : Mth → PV → List PV → Option Rv
  | .count, .list xs, [.int k] => (ints? xs).map fun ns => .frz (.int (ns.count k : Nat))
  | .index, .list xs, [y] => if SeqAt.shaped (.list xs) && SeqAt.shaped y then (xs.findIdx? fun z => PyData.eqv z y).map fun j => .frz (.int (j : Nat)) else none
  | .count, .tuple xs, [.int k] => (ints? xs).map fun ns => .frz (.int (ns.count k : Nat))
  | .index, .tuple xs, [.int k] => (ints? xs).bind fun ns => if k ∈ ns then some (.frz (.int (ns.idxOf k : Nat))) else none
  | _, _, _ => none
/-- max(a, default=d), min(a, default=d), sorted(a, reverse=d) -/
inductive BK where
  | maxD | minD | sortR
  deriving DecidableEq
def bkOp : BK → PV → PV → Option Rv
  | .maxD, x, d => if flat d then (seq? x).bind fun xs => (ints? xs).map fun ns => match ns with
    | [] => .frz d
    | n :: ns => .frz (.int (ns.foldl max n)) else none
  | .minD, x, d => if flat d then (seq? x).bind fun xs => (ints? xs).map fun ns => match ns with
    | [] => .frz d
    | n :: ns => .frz (.int (ns.foldl min n)) else none
  | .sortR, x, .bool b => (seq? x).bind fun ds => if sortable ds then some (.own (.list (isort (W.dataLe b id) ds))) else none
  | _, _, _ => none
/-- {k: v} -/
def dispOp (k v : PV) : Option Rv := (keyQ k).map fun _ => .own (.dict [(k, v)])
inductive Mu where
  | append | extend
  deriving DecidableEq
def muOp : Mu → PV → List PV → Option PV
  | .append, .list xs, [y] => if xs.length < lim then some (.list (xs ++ [y])) else none
  | .extend, .list xs, [.list ys] => if xs.length + ys.length ≤ lim then some (.list (xs ++ ys)) else none
  | _, _, _ => none
/-- x[k] = v -/
def setOp : PV → PV → PV → Option PV
  | .list xs, .int k, v => (ixN xs.length k).map fun j => .list (xs.set j v)
  | .dict kvs, k, v => if kvs.length < lim then (keyQ k).map fun q => .dict (putD kvs k q v) else none
  | _, _, _ => none

def revOp : PV → Option Rv
  | .list xs => some (.own (.list xs.reverse))
  | .tuple xs => some (.frz (.tuple xs.reverse))
  | _ => none
/-- each once, in the order of the first ones -/
def firsts : List Int → List Int → List Int
  | acc, [] => acc
  | acc, x :: xs => firsts (if (acc.any (· == x)) = true then acc else acc ++ [x]) xs
/-- len(set(x)) -/
def lensOp : PV → Option Rv
  | .list xs => (ints? xs).bind fun ns => if ns.length ≤ 4000 then some (.frz (.int ((firsts [] ns).length : Nat))) else none
  | _ => none

/-! ### what is walked -/
inductive ItK where
  | val | rng | enm | zip
  deriving DecidableEq
def rngItems : List PV → Option (List PV)
  | [.int n] => if -(2 ^ 62) ≤ n ∧ n ≤ lim then some ((List.range n.toNat).map fun i => .int (i : Nat)) else none
  | [.int lo, .int hi] => if -(2 ^ 62) ≤ lo ∧ lo < 2 ^ 62 ∧ hi - lo ≤ lim ∧ -(2 ^ 62) ≤ hi ∧ hi < 2 ^ 62 then some ((List.range (hi - lo).toNat).map fun i => .int (lo + (i : Nat))) else none
  | _ => none
def valItems : List PV → Option (List PV)
  | [x] => seq? x
  | _ => none
def enmItems : List PV → Option (List PV)
  | [x] => (seq? x).map fun xs => xs.zipIdx.map fun p => .tuple [.int (p.2 : Nat), p.1]
  | _ => none
def zipItems : List PV → Option (List PV)
  | [.list xs, .list ys] => some (List.zipWith (fun a b => .tuple [a, b]) xs ys)
  | [.tuple xs, .tuple ys] => some (List.zipWith (fun a b => .tuple [a, b]) xs ys)
  | _ => none
def items : ItK → List PV → Option (List PV)
  | .val => valItems
  | .rng => rngItems
  | .enm => enmItems
  | .zip => zipItems

/-! ### syntax -/
/-- what an except clause returns: a text; a tuple of texts; texts and what the exception keeps -/
inductive HR where
  | str (z : Str) | strs (zs : List Str) | fld (zs : List Str) | never (named : Bool) | rep (a b : Str)
  deriving DecidableEq
/-- try: return (told, call()) / except ..: the classes by number -/
structure MetD where
  told : Str
  hs : List (Nat × HR)
  deriving DecidableEq
def HR.res : HR → PV → Option PV
  | .str z, _ => some (.str z)
  | .strs zs, _ => some (.tuple (zs.map .str))
  | .fld zs, v => some (.tuple (zs.map .str ++ [v]))
  | .never _, _ => none
  | .rep a b, v => match reprOp v with
    | some (.frz (.str z)) => if b.length + z.length ≤ lim then some (.tuple [.str a, .str (b ++ z)]) else none
    | _ => none
def HR.isRep : HR → Bool
  | .rep _ _ => true
  | _ => false
def MetD.hasRep (d : MetD) : Bool := d.hs.any fun h => h.2.isRep
def MetD.res (d : MetD) (k : Nat) (v : PV) : Option PV := ((d.hs.find? fun h => h.1 == k).map (·.2)).bind fun h => h.res v
inductive Tg where
  | name (i : Nat) | tup (ts : List Tg)
mutual
def bindT : Tg → PV → M Unit
  | .name i, v => store i (.frz v)
  | .tup ts, v => match v with
    | .tuple vs => if vs.length = ts.length then bindTs ts vs else M.stuck
    | _ => M.stuck
def bindTs : List Tg → List PV → M Unit
  | [], _ => pure ()
  | t :: ts, v :: vs => do bindT t v; bindTs ts vs
  | _ :: _, [] => M.stuck
end
def tgSlots : Tg → List Nat
  | .name i => [i]
  | .tup ts => tgSlotsL ts
where tgSlotsL : List Tg → List Nat
  | [] => []
  | t :: ts => tgSlots t ++ tgSlotsL ts
inductive E where
  | cint (i : Int) | cbl (b : Bool) | cnon | cstr (s : Str)
  | var (i : Nat) | mv (i : Nat) | peek (i : Nat) | glb (g : Nat)
  | bin (op : Operator) (a b : E) | neg (a : E) | not (a : E) | bop (op : BoolOp) (es : List E)
  | cmp (op : CmpOp) (a b : E) | chain (o1 o2 : CmpOp) (a b c : E) | ite (c a b : E)
  | tup (es : List E) | lst (es : List E) | dct0 | star (e : E)
  | idx (a i : E) | slcL (a lo : E) | slcH (a hi : E) | slcLH (a lo hi : E)
  | isi (T : Ty) (a : E) | blt (b : Blt) (es : List E) | lrng (es : List E) | mth (m : Mth) (o : E) (es : List E)
  | call (f : Nat) (es : List E) | callv (i : Nat) (es : List E) | callG (f : Nat) (es : List E) | reprD (e : E) | rev (a : E) | lens (a : E)
  | met (m : Nat) (d : MetD) (f : Nat) (es : List E) | metv (m : Nat) (d : MetD) (i : Nat) (es : List E)
  | lc (own : List (Str × Nat)) (elt : E) (tg : Tg) (k : ItK) (its : List E) (ifs : List E)
  | bk (k : BK) (a d : E) | disp1 (k e : E) | inv (a : E)
  | dc (own : List (Str × Nat)) (ek el : E) (tg : Tg) (k : ItK) (its : List E) (ifs : List E)
  | lc2 (own : List (Str × Nat)) (elt : E) (tg : Tg) (k : ItK) (its : List E) (ifs : List E) (tg1 : Tg) (k1 : ItK) (its1 : List E) (ifs1 : List E)
  | sortK (i : Nat) (key : E) (k : ItK) (its : List E)
  | bestK (mx : Bool) (i : Nat) (key : E) (e : E)
  | dcE (own : List (Str × Nat)) (k : ItK) (its : List E)

/-- a program's defs, by number: the arguments to the result and what the lent arguments hold behind it -/
abbrev FEnv := Nat → List PV → Option (Rv × List PV)
/-- what a def raises: the class by number, what it keeps -/
abbrev XEnv := Nat → List PV → Option (Nat × PV)
structure Cf where
  Φ : FEnv
  /-- the places of the lent parameters of each def -/
  lent : Nat → List Nat
  /-- the module's constants -/
  G : List PV
  Ξ : XEnv

/-- the arguments of a call: values, and the names that are lent -/
def passOne (lent : List Nat) (k : Nat) (r : Rv) : M (PV × List Nat) := fun s =>
  if lent.contains k then
    match r with
    | .slot i => match s[i]? with
      | some (.own v) => .ok (v, [i]) s
      | some (.io v) => .ok (v, [i]) s
      | _ => .stuck
    | _ => .stuck
  else (fz r >>= fun v => pure (v, [])) s
def passArgs (lent : List Nat) : Nat → List Rv → M (List PV × List Nat)
  | _, [] => pure ([], [])
  | k, r :: rs => do
    let p ← passOne lent k r
    let q ← passArgs lent (k + 1) rs
    pure (p.1 :: q.1, p.2 ++ q.2)
def giveBack : List Nat → List PV → M Unit
  | [], [] => pure ()
  | i :: is, v :: vs => fun s => match s[i]? with
    | some (.own _) => giveBack is vs (s.set i (.own v))
    | some (.io _) => giveBack is vs (s.set i (.io v))
    | _ => .stuck
  | _, _ => M.stuck
def callFn (c : Cf) (f : Nat) (rs : List Rv) : M Rv := do
  let p ← passArgs (c.lent f) 0 rs
  if p.2.Nodup then
    let r ← M.opt (c.Φ f p.1)
    giveBack p.2 r.2
    pure r.1
  else M.stuck

def noX {α : Type} (m : M α) : M α := fun s => match m s with
  | .ok a s1 => .ok a s1
  | _ => .stuck
/-- a call that may raise: nothing is lent -/
def callX (c : Cf) (f : Nat) (vs : List PV) : M Rv := fun s =>
  if c.lent f = [] then
    match c.Φ f vs with
    | some (r, []) => .ok r s
    | some _ => .stuck
    | none => match c.Ξ f vs with
      | some (k, v) => .exc k v
      | none => .stuck
  else .stuck
/-- what was told, or met -/
def metM (d : MetD) (m : M Rv) : M Rv := fun s => match m s with
  | .ok (.frz v) s1 => .ok (.frz (.tuple [.str d.told, v])) s1
  | .ok (.own v) s1 => .ok (.frz (.tuple [.str d.told, v])) s1
  | .exc k v => match d.res k v with
    | some w => .ok (.frz w) s
    | none => .stuck
  | _ => .stuck
/-- a name that holds a def -/
def lookFn (i : Nat) : M Nat := fun s => match s[i]? with
  | some (.fn f) => .ok f s
  | _ => .stuck
/-- the slots of a comprehension's own names -/
def hideable : Slot → Bool
  | .emp => true | .frz _ => true | _ => false
def hide (vs : List Nat) (s : Env) : Env := vs.foldl (fun s i => s.set i .emp) s
def hideM (vs : List Nat) : M Unit := fun s =>
  if vs.all (fun i => (s[i]?.map hideable).getD false) then .ok () (hide vs s) else .stuck
/-- a comprehension's turns: each with its own names empty -/
def lcLoop (vs : List Nat) (f : PV → M (Option PV)) : List PV → List PV → M (List PV)
  | [], acc => pure acc
  | x :: xs, acc => do
    let r ← f x
    hideM vs
    lcLoop vs f xs (match r with | some v => acc ++ [v] | none => acc)
def restore (vs : List Nat) (s0 s : Env) : Env := vs.foldl (fun s i => s.set i (s0.getD i .emp)) s
def lcAll (vs : List Nat) (f : PV → M (Option PV)) (xs : List PV) : M Rv := fun s0 =>
  ((do hideM vs; lcLoop vs f xs []) s0).andThen fun acc s => .ok (.own (.list acc)) (restore vs s0 s)
/-- two clauses: the inner loop grows the list -/
def lc2Loop (vs : List Nat) (f : PV → List PV → M (List PV)) : List PV → List PV → M (List PV)
  | [], acc => pure acc
  | x :: xs, acc => do
    let a ← f x acc
    hideM vs
    lc2Loop vs f xs a
def lc2All (vs : List Nat) (f : PV → List PV → M (List PV)) (xs : List PV) : M Rv := fun s0 =>
  ((do hideM vs; lc2Loop vs f xs []) s0).andThen fun acc s => .ok (.own (.list acc)) (restore vs s0 s)
/-- .. behind the inner source -/
def lc2In (vs : List Nat) (f : PV → M (Option PV)) (ys acc : List PV) : M (List PV) := if acc.length + ys.length ≤ lim then (do hideM vs; lcLoop vs f ys acc) else M.stuck

/-- {k: v for ..} -/
def dcPut (acc : List (PV × PV)) (p : PV × PV) : Option (List (PV × PV)) := if acc.length < lim then (keyQ p.1).map fun q => putD acc p.1 q p.2 else none
def dcNext (acc : List (PV × PV)) : Option (PV × PV) → Option (List (PV × PV))
  | some p => dcPut acc p
  | none => some acc
def dcLoop (vs : List Nat) (f : PV → M (Option (PV × PV))) : List PV → List (PV × PV) → M (List (PV × PV))
  | [], acc => pure acc
  | x :: xs, acc => do
    let r ← f x
    let a2 ← M.opt (dcNext acc r)
    hideM vs
    dcLoop vs f xs a2
def dcAll (vs : List Nat) (f : PV → M (Option (PV × PV))) (xs : List PV) : M Rv := fun s0 =>
  ((do hideM vs; dcLoop vs f xs []) s0).andThen fun acc s => .ok (.own (.dict acc)) (restore vs s0 s)

mutual
def ev (c : Cf) : E → M Rv
  | .cint i => pure (.frz (.int i))
  | .cbl b => pure (.frz (.bool b))
  | .cnon => pure (.frz .none)
  | .cstr z => pure (.frz (.str z))
  | .var i => mVar i
  | .mv i => mMv i
  | .peek i => mPeek i
  | .glb g => M.opt ((c.G[g]?).map .frz)
  | .bin op a b => do let x ← ev c a; let y ← ev c b; let u ← opd x; let v ← opd y; M.opt (binOp op u v)
  | .neg a => do let x ← ev c a; let u ← opd x; (match u with | .int i => pure (.frz (.int (-i))) | _ => M.stuck)
  | .not a => do let x ← ev c a; let u ← opd x; let b ← M.opt (truth u); pure (.frz (.bool (!b)))
  | .bop op es => evB c op es
  | .cmp op a b => do let x ← ev c a; let y ← ev c b; let u ← opd x; let v ← opd y; let r ← M.opt (cmpOp op u v); pure (.frz (.bool r))
  | .chain o1 o2 a b d => do
    let x ← ev c a; let y ← ev c b; let u ← opd x; let v ← fz y
    let r ← M.opt (cmpOp o1 u v)
    if r then do let z ← ev c d; let w ← opd z; let r2 ← M.opt (cmpOp o2 v w); pure (.frz (.bool r2))
    else pure (.frz (.bool false))
  | .ite t a b => do let x ← ev c t; let u ← opd x; let k ← M.opt (truth u); if k then ev c a else ev c b
  | .tup es => do let rs ← evA c es; let vs ← fzs rs; if vs.length ≤ lim then pure (.frz (.tuple vs)) else M.stuck
  | .lst es => do let rs ← evA c es; let vs ← fzs rs; if vs.length ≤ lim then pure (.own (.list vs)) else M.stuck
  | .dct0 => pure (.own (.dict []))
  | .star _ => M.stuck
  | .idx a i => do let x ← ev c a; let y ← ev c i; let u ← opd x; let v ← opd y; let r ← M.opt (idxOp u v); pure (.frz r)
  | .slcL a lo => do let x ← ev c a; let y ← ev c lo; let u ← opd x; let v ← fz y; (match v with | .int i => M.opt (slcOp (some i) none u) | _ => M.stuck)
  | .slcH a hi => do let x ← ev c a; let y ← ev c hi; let u ← opd x; let v ← fz y; (match v with | .int i => M.opt (slcOp none (some i) u) | _ => M.stuck)
  | .slcLH a lo hi => do
    let x ← ev c a; let y ← ev c lo; let z ← ev c hi; let u ← opd x; let v ← fz y; let w ← fz z
    (match v, w with | .int i, .int j => M.opt (slcOp (some i) (some j) u) | _, _ => M.stuck)
  | .isi T a => do let x ← ev c a; let u ← opd x; let b ← M.opt (isiOp T u); pure (.frz (.bool b))
  | .blt b es => do let rs ← evs c es; let vs ← opds rs; M.opt (bltOp b vs)
  | .lrng es => do let rs ← evs c es; let vs ← fzs rs; let xs ← M.opt (items .rng vs); pure (.own (.list xs))
  | .mth m o es => do let x ← ev c o; let u0 ← opd x; if isSeqV u0 then (do let rs ← evs c es; let u ← opd x; let vs ← opds rs; M.opt (if isListV u == isListV u0 then mthOp m u vs else none)) else M.stuck
  | .call f es => do let rs ← evs c es; callFn c f rs
  | .callG f es => do let rs ← evs c es; callFn c f rs
  | .reprD e => do let r ← ev c e; let v ← opd r; M.opt (reprOp v)
  | .rev a => do let x ← ev c a; let u ← opd x; M.opt (revOp u)
  | .bk k a d => do let x ← ev c a; let y ← ev c d; let u ← opd x; let v ← opd y; M.opt (bkOp k u v)
  | .disp1 k e => do let r ← ev c k; let u ← fz r; let q ← ev c e; let v ← fz q; M.opt (dispOp u v)
  | .inv a => do let x ← ev c a; let u ← opd x; (match u with | .int i => pure (.frz (.int (Builtin.bitNot i))) | _ => M.stuck)
  | .lens a => do let x ← ev c a; let u ← opd x; M.opt (lensOp u)
  | .callv i es => do let f ← lookFn i; let rs ← evs c es; let vs ← fzs rs; noX (callX c f vs)
  | .met m d f es => do let rs ← evs c es; let vs ← fzs rs; metM d (callX c f vs)
  | .metv m d i es => do let f ← lookFn i; let rs ← evs c es; let vs ← fzs rs; metM d (callX c f vs)
  | .lc own elt tg k its ifs => do
    let rs ← evs c its; let vs ← fzs rs; let xs ← M.opt (items k vs)
    lcAll (own.map (·.2)) (fun x => do
      bindT tg x
      let b ← evT c ifs
      if b then do let r ← ev c elt; let v ← fz r; pure (some v) else pure none) xs
  | .dc own ek el tg k its ifs => do
    let rs ← evs c its; let vs ← fzs rs; let xs ← M.opt (items k vs)
    dcAll (own.map (·.2)) (fun x => do
      bindT tg x
      let b ← evT c ifs
      if b then do let r ← ev c ek; let u ← fz r; let q ← ev c el; let v ← fz q; pure (some (u, v)) else pure none) xs
  | .lc2 own elt tg k its ifs tg1 k1 its1 ifs1 => do
    let rs ← evs c its; let vs ← fzs rs; let xs ← M.opt (items k vs)
    lc2All (own.map (·.2)) (fun x acc => do
      bindT tg x
      let b ← evT c ifs
      if b then do
        let rs1 ← evs c its1; let vs1 ← fzs rs1; let ys ← M.opt (items k1 vs1)
        lc2In (tgSlots tg1) (fun y => do
          bindT tg1 y
          let b ← evT c ifs1
          if b then do let r ← ev c elt; let v ← fz r; pure (some v) else pure none) ys acc
      else pure acc) xs
  | .sortK i key k its => do
    let rs ← evs c its; let vs ← fzs rs; let xs ← M.opt (items k vs)
    let r ← lcAll [i] (fun x => do
      bindT (.name i) x
      let r ← ev c key; let v ← fz r; pure (some v)) xs
    M.opt (sortKOp xs r)
  | .bestK mx i key e => do
    let r0 ← ev c e; let d ← fz r0; let xs ← M.opt (lst? d)
    let r ← lcAll [i] (fun x => do
      bindT (.name i) x
      let r ← ev c key; let v ← fz r; pure (some v)) xs
    M.opt (bestOp mx xs r)
  | .dcE own k its => do
    let rs ← evs c its; let vs ← fzs rs; let xs ← M.opt (items k vs)
    if xs.isEmpty then pure (.own (.dict [])) else M.stuck
/-- and, or: all but the last True or False -/
def evB (c : Cf) (op : BoolOp) : List E → M Rv
  | [] => M.stuck
  | [e] => do let r ← ev c e; let v ← fz r; pure (.frz v)
  | e :: es => do
    let x ← ev c e
    let u ← opd x
    match u, op with
    | .bool false, .And => pure (.frz (.bool false))
    | .bool true, .And => evB c op es
    | .bool true, .Or => pure (.frz (.bool true))
    | .bool false, .Or => evB c op es
    | _, _ => M.stuck
def evs (c : Cf) : List E → M (List Rv)
  | [] => pure []
  | e :: es => do let r ← ev c e; let rs ← evs c es; pure (r :: rs)
/-- items of a display, with stars -/
def evA (c : Cf) : List E → M (List Rv)
  | [] => pure []
  | .star e :: es => do let r ← ev c e; let u ← opd r; let xs ← M.opt (seq? u); let rs ← evA c es; pure (xs.map .frz ++ rs)
  | e :: es => do let r ← ev c e; let v ← fz r; let rs ← evA c es; pure (.frz v :: rs)
/-- a clause's tests -/
def evT (c : Cf) : List E → M Bool
  | [] => pure true
  | e :: es => do
    let x ← ev c e; let u ← opd x; let b ← M.opt (truth u)
    if b then evT c es else pure false
end

/-! ### statements -/
inductive S where
  | pass | ex (e : E) | asg (t : Tg) (e : E) | par (ts : List Nat) (es : List E) | aug (i : Nat) (op : Operator) (e : E)
  | seti (i : Nat) (k e : E) | augI (i : Nat) (op : Operator) (k e : E) | mut (m : Mu) (i : Nat) (es : List E)
  | ret (e : E) | retN | ite (t : E) (a b : List S) | loop (tg : Tg) (k : ItK) (its : List E) (body : List S)
  | whl (t : E) (body : List S) | brk | cont | never
  | raise (k : Nat) (eo : Option E) | exX (f : Nat) (es : List E) | retX (f : Nat) (es : List E) | retXA (f : Nat) (es : List E) (g : Nat) (gs : List E) | loopF (i : Nat) (fs : List Nat) (body : List S)
  | subs (ts : List (Nat × E)) (es : List E) | asgX (i : Nat) (f : Nat) (es : List E)
  | popA (i j : Nat) | subN (a : Nat) (k : E) (i : Nat) (es : List E)
inductive Flow where
  | next | brk | cont | ret (r : Rv)
def forLoop (step : PV → M Flow) : List PV → M Flow
  | [] => pure .next
  | x :: xs => do
    let f ← step x
    match f with
    | .next => forLoop step xs
    | .cont => forLoop step xs
    | .brk => pure .next
    | .ret r => pure (.ret r)
def fnLoop (step : Nat → M Flow) : List Nat → M Flow
  | [] => pure .next
  | x :: xs => do
    let f ← step x
    match f with
    | .next => fnLoop step xs
    | .cont => fnLoop step xs
    | .brk => pure .next
    | .ret r => pure (.ret r)
/-- a name gets a def -/
def storeFn (i f : Nat) : M Unit := fun s => match s[i]? with
  | some (.io _) => .stuck
  | none => .stuck
  | some _ => .ok () (s.set i (.fn f))
def whileLoop (test : M Bool) (body : M Flow) : Nat → M Flow
  | 0 => M.stuck
  | n + 1 => do
    let b ← test
    if b then do
      let f ← body
      match f with
      | .next => whileLoop test body n
      | .cont => whileLoop test body n
      | .brk => pure .next
      | .ret r => pure (.ret r)
    else pure .next
def fuel : Nat := 2 ^ 40
/-- from the right -/
def storeAll : List Nat → List Rv → M Unit
  | [], [] => pure ()
  | i :: is, r :: rs => do storeAll is rs; store i r
  | _, _ => M.stuck
/-- a list of results, each for good or new -/
def evPar (c : Cf) : List E → M (List Rv)
  | [] => pure []
  | e :: es => do
    let r ← ev c e
    match r with
    | .slot _ => M.stuck
    | .frz d => do let rs ← evPar c es; pure (.frz d :: rs)
    | .own d => do let rs ← evPar c es; pure (.own d :: rs)
def setSlot (i : Nat) (v : PV) : M Unit := fun s => match s[i]? with
  | some (.own _) => .ok () (s.set i (.own v))
  | some (.io _) => .ok () (s.set i (.io v))
  | _ => .stuck
def ownVal (i : Nat) : M PV := fun s => match s[i]? with
  | some (.own v) => .ok v s
  | some (.io v) => .ok v s
  | _ => .stuck
/-- x[k] = v, x a name's own -/
def subOne (c : Cf) (i : Nat) (k : E) (v : PV) : M Unit := do
  let _ ← ownVal i
  let q ← ev c k; let j ← opd q
  let u ← ownVal i
  let w ← M.opt (setOp u j v)
  setSlot i w
def subAll (c : Cf) : List (Nat × E) → List PV → M Unit
  | [], [] => pure ()
  | t :: ts, v :: vs => do subOne c t.1 t.2 v; subAll c ts vs
  | _, _ => M.stuck
/-- what stands in a list -/
def augGet : PV → PV → Option PV
  | .list xs, .int i => (ixN xs.length i).bind fun j => xs[j]?
  | _, _ => none
/-- op of two ints, an int -/
def augOp (op : Operator) (u v : PV) : Option PV := match u, v with
  | .int a, .int b => match binOp op (.int a) (.int b) with
    | some (.frz (.int z)) => some (.int z)
    | _ => none
  | _, _ => none
mutual
def evS (c : Cf) : S → M Flow
  | .pass => pure .next
  | .ex e => do let _ ← ev c e; pure .next
  | .asg t e => do
    let r ← ev c e
    match t with
    | .name i => do store i r; pure .next
    | .tup ts => do let v ← fz r; bindT (.tup ts) v; pure .next
  | .par ts es => do let rs ← evPar c es; storeAll ts rs; pure .next
  | .aug i op e => do
    let u ← look i
    let r ← ev c e; let v ← opd r
    let z ← M.opt (match u, v with | .int _, .int _ => binOp op u v | _, _ => none)
    store i z; pure .next
  | .seti i k e => do
    let r ← ev c e; let v ← fz r
    let _ ← ownVal i
    let q ← ev c k; let j ← opd q
    let u ← ownVal i
    let w ← M.opt (setOp u j v)
    setSlot i w; pure .next
  | .augI i op k e => do
    let _ ← ownVal i
    let q ← ev c k; let j ← opd q
    let u ← ownVal i
    let old ← M.opt (augGet u j)
    let r ← ev c e; let v ← opd r
    let z ← M.opt (augOp op old v)
    let u2 ← ownVal i
    let w ← M.opt (setOp u2 j z)
    setSlot i w; pure .next
  | .subs ts es => do
    let r ← ev c (.tup es); let v ← fz r
    match v with
    | .tuple vs => do subAll c ts vs; pure .next
    | _ => M.stuck
  | .subN a k i es => do
    let r ← ev c (.tup es); let v ← fz r
    match v with
    | .tuple [v1, v2] => do subOne c a k v1; bindT (.name i) v2; pure .next
    | _ => M.stuck
  | .popA i j => do
    let u ← ownVal j
    match u with
    | .list xs => match xs[xs.length - 1]? with
      | some y => do setSlot j (.list xs.dropLast); store i (.frz y); pure .next
      | none => M.stuck
    | _ => M.stuck
  | .mut m i es => do
    let u0 ← ownVal i
    if isListV u0 then do
      let rs ← evs c es; let vs ← fzs rs
      let u ← ownVal i
      let w ← M.opt (muOp m u vs)
      setSlot i w; pure .next
    else M.stuck
  | .ret e => do let r ← ev c e; (match r with | .slot _ => M.stuck | r => pure (.ret r))
  | .retN => pure (.ret (.frz .none))
  | .ite t a b => do let x ← ev c t; let u ← opd x; let k ← M.opt (truth u); if k then evSs c a else evSs c b
  | .loop tg k its body => do
    let rs ← evs c its; let vs ← fzs rs; let xs ← M.opt (items k vs)
    forLoop (fun x => do bindT tg x; evSs c body) xs
  | .whl t body => whileLoop (do let x ← ev c t; let u ← opd x; M.opt (truth u)) (evSs c body) fuel
  | .brk => pure .brk
  | .cont => pure .cont
  | .never => M.stuck
  | .raise k eo => match eo with
    | none => fun _ => .exc k .none
    | some e => do let r ← ev c e; let v ← fz r; fun _ => .exc k v
  | .exX f es => do let rs ← evs c es; let vs ← fzs rs; let _ ← callX c f vs; pure .next
  | .asgX i f es => do let rs ← evs c es; let vs ← fzs rs; let r ← callX c f vs; let _ ← store i r; pure .next
  | .retXA f es g gs => do
    let rs ← evs c es
    let r2s ← evs c gs; let d2 ← fzs r2s; let r2 ← callX c g d2
    let ds ← fzs (rs ++ [r2]); let r ← callX c f ds; pure (.ret r)
  | .retX f es => do let rs ← evs c es; let vs ← fzs rs; let r ← callX c f vs; pure (.ret r)
  | .loopF i fs body => fnLoop (fun f => do storeFn i f; evSs c body) fs
def evSs (c : Cf) : List S → M Flow
  | [] => pure .next
  | s :: ss => do
    let f ← evS c s
    match f with
    | .next => evSs c ss
    | .brk => pure .brk
    | .cont => pure .cont
    | .ret r => pure (.ret r)
end

/-! ### programs -/
structure Def where
  nm : Str
  np : Nat
  lent : List Nat
  N : List Str
  body : List S
  /-- lambdas are made in it -/
  lam : Bool
  /-- it wants to know that no repr runs around -/
  gd : Bool
def Def.start (d : Def) (args : List PV) : Env := (args.zipIdx.map fun p => if d.lent.contains p.2 then Slot.io p.1 else Slot.frz p.1) ++ List.replicate (d.N.length - args.length) Slot.emp
def outs (s : Env) : List Nat → Option (List PV)
  | [] => some []
  | i :: is => match s[i]? with
    | some (.io v) => (outs s is).map (v :: ·)
    | _ => none
def runDef (c : Cf) (d : Def) (args : List PV) : Option (Rv × List PV) :=
  if args.length = d.np ∧ d.np ≤ d.N.length then
    match evSs c d.body (d.start args) with
    | .ok (.ret (.frz v)) s => (outs s d.lent).map fun o => (.frz v, o)
    | .ok (.ret (.own v)) s => (outs s d.lent).map fun o => (.own v, o)
    | .ok .next s => (outs s d.lent).map fun o => (.frz .none, o)
    | _ => none
  else none
def runX (c : Cf) (d : Def) (args : List PV) : Option (Nat × PV) :=
  if args.length = d.np ∧ d.np ≤ d.N.length then
    match evSs c d.body (d.start args) with
    | .exc k v => some (k, v)
    | _ => none
  else none
structure Prg where
  defs : List Def
  G : List PV
def Prg.lent (p : Prg) (f : Nat) : List Nat := match p.defs[f]? with | some d => d.lent | none => []
def Prg.runs (p : Prg) : Nat → FEnv × XEnv
  | 0 => (fun _ _ => none, fun _ _ => none)
  | n + 1 => (fun f args => match p.defs[f]? with
    | some d => runDef ⟨(p.runs n).1, p.lent, p.G, (p.runs n).2⟩ d args
    | none => none, fun f args => match p.defs[f]? with
    | some d => runX ⟨(p.runs n).1, p.lent, p.G, (p.runs n).2⟩ d args
    | none => none)
def Prg.Φ (p : Prg) (n : Nat) : FEnv := (p.runs n).1
def Prg.Ξ (p : Prg) (n : Nat) : XEnv := (p.runs n).2
def Prg.cf (p : Prg) (n : Nat) : Cf := ⟨p.Φ n, p.lent, p.G, p.Ξ n⟩
theorem Prg.Φ_succ (p : Prg) (n f : Nat) (args : List PV) : p.Φ (n + 1) f args = match p.defs[f]? with | some d => runDef (p.cf n) d args | none => none := rfl
theorem Prg.Ξ_succ (p : Prg) (n f : Nat) (args : List PV) : p.Ξ (n + 1) f args = match p.defs[f]? with | some d => runX (p.cf n) d args | none => none := rfl
end Ev

/-! Ev1n: an expression never raises (what raises are statements). -/
namespace Ev
open PySem
def NX {α : Type} (m : M α) : Prop := ∀ s k v, m s ≠ .exc k v
section
variable {α β : Type} {c : Cf}
theorem nx_pure (a : α) : NX (pure a : M α) := fun s k v h => by cases h
theorem nx_stuck : NX (M.stuck : M α) := fun s k v h => by cases h
theorem nx_opt (o : Option α) : NX (M.opt o) := fun s k v h => by cases o <;> cases h
theorem nx_bind {m : M α} {f : α → M β} (h1 : NX m) (h2 : ∀ a, NX (f a)) : NX (m >>= f) := fun s k v h => by
  have h : (m s).andThen f = .exc k v := h
  cases e : m s with
  | ok a s1 => rw [e] at h; exact h2 a s1 k v h
  | exc k' v' => exact h1 s k' v' e
  | stuck => rw [e] at h; cases h
theorem nx_noX (m : M α) : NX (noX m) := fun s k v h => by
  unfold noX at h
  split at h <;> cases h
theorem nx_metM (d : MetD) (m : M Rv) : NX (metM d m) := fun s k v h => by
  unfold metM at h
  split at h
  · cases h
  · cases h
  · split at h <;> cases h
  · cases h
theorem nx_if {P : Prop} [Decidable P] {a b : M α} (h1 : NX a) (h2 : NX b) : NX (if P then a else b) := by split <;> assumption
theorem nx_look (i : Nat) : NX (look i) := fun s k v h => nx_opt _ s k v h
theorem nx_mVar (i : Nat) : NX (mVar i) := fun s k v h => by unfold mVar at h; split at h <;> cases h
theorem nx_mMv (i : Nat) : NX (mMv i) := fun s k v h => by unfold mMv at h; split at h <;> cases h
theorem nx_mPeek (i : Nat) : NX (mPeek i) := fun s k v h => by unfold mPeek at h; split at h <;> cases h
theorem nx_opd (r : Rv) : NX (opd r) := by
  cases r with
  | frz v => exact nx_pure _
  | own v => exact nx_pure _
  | slot i => exact nx_look i
theorem nx_fz (r : Rv) : NX (fz r) := by
  cases r with
  | frz v => exact nx_pure _
  | own v => exact nx_pure _
  | slot i => exact nx_stuck
theorem nx_opds : ∀ rs : List Rv, NX (opds rs)
  | [] => nx_pure _
  | r :: rs => nx_bind (nx_opd r) fun _ => nx_bind (nx_opds rs) fun _ => nx_pure _
theorem nx_fzs : ∀ rs : List Rv, NX (fzs rs)
  | [] => nx_pure _
  | r :: rs => nx_bind (nx_fz r) fun _ => nx_bind (nx_fzs rs) fun _ => nx_pure _
theorem nx_store (i : Nat) (r : Rv) : NX (store i r) := fun s k v h => by unfold store at h; split at h <;> cases h
theorem nx_storeFn (i f : Nat) : NX (storeFn i f) := fun s k v h => by unfold storeFn at h; split at h <;> cases h
theorem nx_lookFn (i : Nat) : NX (lookFn i) := fun s k v h => by unfold lookFn at h; split at h <;> cases h
theorem nx_setSlot (i : Nat) (d : PV) : NX (setSlot i d) := fun s k v h => by unfold setSlot at h; split at h <;> cases h
theorem nx_ownVal (i : Nat) : NX (ownVal i) := fun s k v h => by unfold ownVal at h; split at h <;> cases h
theorem nx_hideM (vs : List Nat) : NX (hideM vs) := fun s k v h => by unfold hideM at h; split at h <;> cases h
theorem nx_storeAll : ∀ (is : List Nat) (rs : List Rv), NX (storeAll is rs)
  | [], [] => nx_pure _
  | [], _ :: _ => nx_stuck
  | _ :: _, [] => nx_stuck
  | i :: is, r :: rs => nx_bind (nx_storeAll is rs) fun _ => nx_store i r
theorem nx_passOne (l : List Nat) (j : Nat) (r : Rv) : NX (passOne l j r) := fun s k v h => by
  unfold passOne at h
  split at h
  · split at h
    · split at h <;> cases h
    · cases h
  · exact nx_bind (nx_fz r) (fun _ => nx_pure _) s k v h
theorem nx_passArgs (l : List Nat) : ∀ (k : Nat) (rs : List Rv), NX (passArgs l k rs)
  | _, [] => nx_pure _
  | k, r :: rs => nx_bind (nx_passOne l k r) fun _ => nx_bind (nx_passArgs l (k + 1) rs) fun _ => nx_pure _
theorem nx_giveBack : ∀ (is : List Nat) (vs : List PV), NX (giveBack is vs)
  | [], [] => nx_pure _
  | [], _ :: _ => nx_stuck
  | _ :: _, [] => nx_stuck
  | i :: is, w :: vs => fun s k v h => by
    have h : (match s[i]? with | some (.own _) => giveBack is vs (s.set i (.own w)) | some (.io _) => giveBack is vs (s.set i (.io w)) | _ => .stuck) = .exc k v := h
    split at h
    · exact nx_giveBack is vs _ k v h
    · exact nx_giveBack is vs _ k v h
    · cases h
theorem nx_callFn (f : Nat) (rs : List Rv) : NX (callFn c f rs) := nx_bind (nx_passArgs _ _ _) fun _ => nx_if (nx_bind (nx_opt _) fun _ => nx_bind (nx_giveBack _ _) fun _ => nx_pure _) nx_stuck
theorem nx_lcLoop {vs : List Nat} {f : PV → M (Option PV)} (h : ∀ x, NX (f x)) : ∀ (xs acc : List PV), NX (lcLoop vs f xs acc)
  | [], _ => nx_pure _
  | x :: xs, acc => nx_bind (h x) fun _ => nx_bind (nx_hideM vs) fun _ => nx_lcLoop h xs _
theorem nx_lcAll {vs : List Nat} {f : PV → M (Option PV)} (h : ∀ x, NX (f x)) (xs : List PV) : NX (lcAll vs f xs) := fun s k v q => by
  have q : (((do hideM vs; lcLoop vs f xs []) : M (List PV)) s).andThen (fun acc s1 => RE.ok (Rv.own (.list acc)) (restore vs s s1)) = .exc k v := q
  cases e : ((do hideM vs; lcLoop vs f xs []) : M (List PV)) s with
  | ok a s1 => rw [e] at q; cases q
  | exc k' v' => exact nx_bind (nx_hideM vs) (fun _ => nx_lcLoop h xs []) s k' v' e
  | stuck => rw [e] at q; cases q
theorem nx_lc2Loop {vs : List Nat} {f : PV → List PV → M (List PV)} (h : ∀ x acc, NX (f x acc)) : ∀ (xs acc : List PV), NX (lc2Loop vs f xs acc)
  | [], _ => nx_pure _
  | x :: xs, acc => nx_bind (h x acc) fun _ => nx_bind (nx_hideM vs) fun _ => nx_lc2Loop h xs _
theorem nx_lc2In {vs : List Nat} {f : PV → M (Option PV)} (h : ∀ x, NX (f x)) (ys acc : List PV) : NX (lc2In vs f ys acc) := by
  unfold lc2In
  exact nx_if (nx_bind (nx_hideM vs) fun _ => nx_lcLoop h ys _) nx_stuck
theorem nx_lc2All {vs : List Nat} {f : PV → List PV → M (List PV)} (h : ∀ x acc, NX (f x acc)) (xs : List PV) : NX (lc2All vs f xs) := fun s k v q => by
  have q : (((do hideM vs; lc2Loop vs f xs []) : M (List PV)) s).andThen (fun acc s1 => RE.ok (Rv.own (.list acc)) (restore vs s s1)) = .exc k v := q
  cases e : ((do hideM vs; lc2Loop vs f xs []) : M (List PV)) s with
  | ok a s1 => rw [e] at q; cases q
  | exc k' v' => exact nx_bind (nx_hideM vs) (fun _ => nx_lc2Loop h xs []) s k' v' e
  | stuck => rw [e] at q; cases q
theorem nx_dcLoop {vs : List Nat} {f : PV → M (Option (PV × PV))} (h : ∀ x, NX (f x)) : ∀ (xs : List PV) (acc : List (PV × PV)), NX (dcLoop vs f xs acc)
  | [], _ => nx_pure _
  | x :: xs, acc => nx_bind (h x) fun _ => nx_bind (nx_opt _) fun _ => nx_bind (nx_hideM vs) fun _ => nx_dcLoop h xs _
theorem nx_dcAll {vs : List Nat} {f : PV → M (Option (PV × PV))} (h : ∀ x, NX (f x)) (xs : List PV) : NX (dcAll vs f xs) := fun s k v q => by
  have q : (((do hideM vs; dcLoop vs f xs []) : M (List (PV × PV))) s).andThen (fun acc s1 => RE.ok (Rv.own (.dict acc)) (restore vs s s1)) = .exc k v := q
  cases e : ((do hideM vs; dcLoop vs f xs []) : M (List (PV × PV))) s with
  | ok a s1 => rw [e] at q; cases q
  | exc k' v' => exact nx_bind (nx_hideM vs) (fun _ => nx_dcLoop h xs []) s k' v' e
  | stuck => rw [e] at q; cases q
mutual
theorem nx_bindT : ∀ (t : Tg) (v : PV), NX (bindT t v)
  | .name i, v => nx_store i _
  | .tup ts, v => by
    cases v with
    | tuple vs => exact nx_if (nx_bindTs ts vs) nx_stuck
    | _ => exact nx_stuck
theorem nx_bindTs : ∀ (ts : List Tg) (vs : List PV), NX (bindTs ts vs)
  | [], _ => nx_pure _
  | t :: ts, v :: vs => nx_bind (nx_bindT t v) fun _ => nx_bindTs ts vs
  | _ :: _, [] => nx_stuck
end
mutual
theorem nx_ev : ∀ e : E, NX (ev c e)
  | .cint i => nx_pure _
  | .cbl b => nx_pure _
  | .cnon => nx_pure _
  | .cstr z => nx_pure _
  | .var i => nx_mVar i
  | .mv i => nx_mMv i
  | .peek i => nx_mPeek i
  | .glb g => nx_opt _
  | .bin op a b => nx_bind (nx_ev a) fun _ => nx_bind (nx_ev b) fun _ => nx_bind (nx_opd _) fun _ => nx_bind (nx_opd _) fun _ => nx_opt _
  | .neg a => nx_bind (nx_ev a) fun _ => nx_bind (nx_opd _) fun u => by cases u <;> first | exact nx_pure _ | exact nx_stuck
  | .not a => nx_bind (nx_ev a) fun _ => nx_bind (nx_opd _) fun _ => nx_bind (nx_opt _) fun _ => nx_pure _
  | .bop op es => nx_evB op es
  | .cmp op a b => nx_bind (nx_ev a) fun _ => nx_bind (nx_ev b) fun _ => nx_bind (nx_opd _) fun _ => nx_bind (nx_opd _) fun _ => nx_bind (nx_opt _) fun _ => nx_pure _
  | .chain o1 o2 a b d => nx_bind (nx_ev a) fun _ => nx_bind (nx_ev b) fun _ => nx_bind (nx_opd _) fun _ => nx_bind (nx_fz _) fun _ => nx_bind (nx_opt _) fun _ => nx_if (nx_bind (nx_ev d) fun _ => nx_bind (nx_opd _) fun _ => nx_bind (nx_opt _) fun _ => nx_pure _) (nx_pure _)
  | .ite t a b => nx_bind (nx_ev t) fun _ => nx_bind (nx_opd _) fun _ => nx_bind (nx_opt _) fun _ => nx_if (nx_ev a) (nx_ev b)
  | .tup es => nx_bind (nx_evA es) fun _ => nx_bind (nx_fzs _) fun _ => nx_if (nx_pure _) nx_stuck
  | .lst es => nx_bind (nx_evA es) fun _ => nx_bind (nx_fzs _) fun _ => nx_if (nx_pure _) nx_stuck
  | .dct0 => nx_pure _
  | .star _ => nx_stuck
  | .idx a i => nx_bind (nx_ev a) fun _ => nx_bind (nx_ev i) fun _ => nx_bind (nx_opd _) fun _ => nx_bind (nx_opd _) fun _ => nx_bind (nx_opt _) fun _ => nx_pure _
  | .slcL a lo => nx_bind (nx_ev a) fun _ => nx_bind (nx_ev lo) fun _ => nx_bind (nx_opd _) fun _ => nx_bind (nx_fz _) fun v => by cases v <;> first | exact nx_opt _ | exact nx_stuck
  | .slcH a hi => nx_bind (nx_ev a) fun _ => nx_bind (nx_ev hi) fun _ => nx_bind (nx_opd _) fun _ => nx_bind (nx_fz _) fun v => by cases v <;> first | exact nx_opt _ | exact nx_stuck
  | .slcLH a lo hi => nx_bind (nx_ev a) fun _ => nx_bind (nx_ev lo) fun _ => nx_bind (nx_ev hi) fun _ => nx_bind (nx_opd _) fun _ => nx_bind (nx_fz _) fun v => nx_bind (nx_fz _) fun w => by cases v <;> cases w <;> first | exact nx_opt _ | exact nx_stuck
  | .isi T a => nx_bind (nx_ev a) fun _ => nx_bind (nx_opd _) fun _ => nx_bind (nx_opt _) fun _ => nx_pure _
  | .blt b es => nx_bind (nx_evs es) fun _ => nx_bind (nx_opds _) fun _ => nx_opt _
  | .lrng es => nx_bind (nx_evs es) fun _ => nx_bind (nx_fzs _) fun _ => nx_bind (nx_opt _) fun _ => nx_pure _
  | .mth m o es => nx_bind (nx_ev o) fun _ => nx_bind (nx_opd _) fun _ => nx_if (nx_bind (nx_evs es) fun _ => nx_bind (nx_opd _) fun _ => nx_bind (nx_opds _) fun _ => nx_opt _) nx_stuck
  | .call f es => nx_bind (nx_evs es) fun _ => nx_callFn f _
  | .callG f es => nx_bind (nx_evs es) fun _ => nx_callFn f _
  | .reprD e => nx_bind (nx_ev e) fun _ => nx_bind (nx_opd _) fun _ => nx_opt _
  | .rev a => nx_bind (nx_ev a) fun _ => nx_bind (nx_opd _) fun _ => nx_opt _
  | .bk k a d => nx_bind (nx_ev a) fun _ => nx_bind (nx_ev d) fun _ => nx_bind (nx_opd _) fun _ => nx_bind (nx_opd _) fun _ => nx_opt _
  | .disp1 k e => nx_bind (nx_ev k) fun _ => nx_bind (nx_fz _) fun _ => nx_bind (nx_ev e) fun _ => nx_bind (nx_fz _) fun _ => nx_opt _
  | .inv a => nx_bind (nx_ev a) fun _ => nx_bind (nx_opd _) fun u => by cases u <;> first | exact nx_pure _ | exact nx_stuck
  | .lens a => nx_bind (nx_ev a) fun _ => nx_bind (nx_opd _) fun _ => nx_opt _
  | .callv i es => nx_bind (nx_lookFn i) fun _ => nx_bind (nx_evs es) fun _ => nx_bind (nx_fzs _) fun _ => nx_noX _
  | .met m d f es => nx_bind (nx_evs es) fun _ => nx_bind (nx_fzs _) fun _ => nx_metM d _
  | .metv m d i es => nx_bind (nx_lookFn i) fun _ => nx_bind (nx_evs es) fun _ => nx_bind (nx_fzs _) fun _ => nx_metM d _
  | .lc own elt tg k its ifs => nx_bind (nx_evs its) fun _ => nx_bind (nx_fzs _) fun _ => nx_bind (nx_opt _) fun _ => nx_lcAll (fun x => nx_bind (nx_bindT tg x) fun _ => nx_bind (nx_evT ifs) fun _ => nx_if (nx_bind (nx_ev elt) fun _ => nx_bind (nx_fz _) fun _ => nx_pure _) (nx_pure _)) _
  | .dc own ek el tg k its ifs => nx_bind (nx_evs its) fun _ => nx_bind (nx_fzs _) fun _ => nx_bind (nx_opt _) fun _ => nx_dcAll (fun x => nx_bind (nx_bindT tg x) fun _ => nx_bind (nx_evT ifs) fun _ => nx_if (nx_bind (nx_ev ek) fun _ => nx_bind (nx_fz _) fun _ => nx_bind (nx_ev el) fun _ => nx_bind (nx_fz _) fun _ => nx_pure _) (nx_pure _)) _
  | .lc2 own elt tg k its ifs tg1 k1 its1 ifs1 => nx_bind (nx_evs its) fun _ => nx_bind (nx_fzs _) fun _ => nx_bind (nx_opt _) fun _ => nx_lc2All (fun x acc => nx_bind (nx_bindT tg x) fun _ => nx_bind (nx_evT ifs) fun _ => nx_if (nx_bind (nx_evs its1) fun _ => nx_bind (nx_fzs _) fun _ => nx_bind (nx_opt _) fun _ => nx_lc2In (fun x => nx_bind (nx_bindT tg1 x) fun _ => nx_bind (nx_evT ifs1) fun _ => nx_if (nx_bind (nx_ev elt) fun _ => nx_bind (nx_fz _) fun _ => nx_pure _) (nx_pure _)) _ _) (nx_pure _)) _
  | .sortK i key k its => nx_bind (nx_evs its) fun _ => nx_bind (nx_fzs _) fun _ => nx_bind (nx_opt _) fun _ => nx_bind (nx_lcAll (fun x => nx_bind (nx_bindT (.name i) x) fun _ => nx_bind (nx_ev key) fun _ => nx_bind (nx_fz _) fun _ => nx_pure _) _) fun _ => nx_opt _
  | .bestK mx i key e => nx_bind (nx_ev e) fun _ => nx_bind (nx_fz _) fun _ => nx_bind (nx_opt _) fun _ => nx_bind (nx_lcAll (fun x => nx_bind (nx_bindT (.name i) x) fun _ => nx_bind (nx_ev key) fun _ => nx_bind (nx_fz _) fun _ => nx_pure _) _) fun _ => nx_opt _
  | .dcE own k its => nx_bind (nx_evs its) fun _ => nx_bind (nx_fzs _) fun _ => nx_bind (nx_opt _) fun _ => nx_if (nx_pure _) nx_stuck
theorem nx_evB (op : BoolOp) : ∀ es : List E, NX (evB c op es)
  | [] => nx_stuck
  | [e] => nx_bind (nx_ev e) fun _ => nx_bind (nx_fz _) fun _ => nx_pure _
  | e :: e2 :: es => nx_bind (nx_ev e) fun _ => nx_bind (nx_opd _) fun u => by
    cases u with
    | bool b => cases b <;> cases op <;> first | exact nx_pure _ | exact nx_evB _ (e2 :: es)
    | _ => exact nx_stuck
theorem nx_evs : ∀ es : List E, NX (evs c es)
  | [] => nx_pure _
  | e :: es => nx_bind (nx_ev e) fun _ => nx_bind (nx_evs es) fun _ => nx_pure _
theorem nx_evA : ∀ es : List E, NX (evA c es)
  | [] => nx_pure _
  | .star e :: es => nx_bind (nx_ev e) fun _ => nx_bind (nx_opd _) fun _ => nx_bind (nx_opt _) fun _ => nx_bind (nx_evA es) fun _ => nx_pure _
  | e :: es => by
    have h := nx_ev e
    have h2 := nx_evA es
    cases e <;> first | exact nx_bind h fun _ => nx_bind (nx_fz _) fun _ => nx_bind h2 fun _ => nx_pure _ | exact nx_bind (nx_ev _) fun _ => nx_bind (nx_opd _) fun _ => nx_bind (nx_opt _) fun _ => nx_bind h2 fun _ => nx_pure _
theorem nx_evT : ∀ es : List E, NX (evT c es)
  | [] => nx_pure _
  | e :: es => nx_bind (nx_ev e) fun _ => nx_bind (nx_opd _) fun _ => nx_bind (nx_opt _) fun _ => nx_if (nx_evT es) (nx_pure _)
end
theorem nx_evPar : ∀ es : List E, NX (evPar c es)
  | [] => nx_pure _
  | e :: es => nx_bind (nx_ev e) fun r => by
    cases r with
    | slot i => exact nx_stuck
    | frz d => exact nx_bind (nx_evPar es) fun _ => nx_pure _
    | own d => exact nx_bind (nx_evPar es) fun _ => nx_pure _
/-! ### statements without statements within -/
theorem nx_ex (e : E) : NX (evS c (.ex e)) := nx_bind (nx_ev e) fun _ => nx_pure _
theorem nx_asg (t : Tg) (e : E) : NX (evS c (.asg t e)) := nx_bind (nx_ev e) fun _ => by
  cases t with
  | name i => exact nx_bind (nx_store _ _) fun _ => nx_pure _
  | tup ts => exact nx_bind (nx_fz _) fun _ => nx_bind (nx_bindT _ _) fun _ => nx_pure _
theorem nx_par (ts : List Nat) (es : List E) : NX (evS c (.par ts es)) := nx_bind (nx_evPar es) fun _ => nx_bind (nx_storeAll _ _) fun _ => nx_pure _
theorem nx_aug (i : Nat) (op : Operator) (e : E) : NX (evS c (.aug i op e)) := nx_bind (nx_look i) fun _ => nx_bind (nx_ev e) fun _ => nx_bind (nx_opd _) fun _ => nx_bind (nx_opt _) fun _ => nx_bind (nx_store _ _) fun _ => nx_pure _
theorem nx_seti (i : Nat) (k e : E) : NX (evS c (.seti i k e)) := nx_bind (nx_ev e) fun _ => nx_bind (nx_fz _) fun _ => nx_bind (nx_ownVal _) fun _ => nx_bind (nx_ev k) fun _ => nx_bind (nx_opd _) fun _ => nx_bind (nx_ownVal _) fun _ => nx_bind (nx_opt _) fun _ => nx_bind (nx_setSlot _ _) fun _ => nx_pure _
theorem nx_augI (i : Nat) (op : Operator) (k e : E) : NX (evS c (.augI i op k e)) := nx_bind (nx_ownVal _) fun _ => nx_bind (nx_ev k) fun _ => nx_bind (nx_opd _) fun _ => nx_bind (nx_ownVal _) fun _ => nx_bind (nx_opt _) fun _ => nx_bind (nx_ev e) fun _ => nx_bind (nx_opd _) fun _ => nx_bind (nx_opt _) fun _ => nx_bind (nx_ownVal _) fun _ => nx_bind (nx_opt _) fun _ => nx_bind (nx_setSlot _ _) fun _ => nx_pure _
theorem nx_subOne (i : Nat) (k : E) (v : PV) : NX (subOne c i k v) := nx_bind (nx_ownVal _) fun _ => nx_bind (nx_ev k) fun _ => nx_bind (nx_opd _) fun _ => nx_bind (nx_ownVal _) fun _ => nx_bind (nx_opt _) fun _ => nx_setSlot _ _
theorem nx_subAll : ∀ (ts : List (Nat × E)) (vs : List PV), NX (subAll c ts vs)
  | [], [] => nx_pure _
  | t :: ts, v :: vs => nx_bind (nx_subOne _ _ _) fun _ => nx_subAll ts vs
  | [], _ :: _ => nx_stuck
  | _ :: _, [] => nx_stuck
theorem nx_subs (ts : List (Nat × E)) (es : List E) : NX (evS c (.subs ts es)) := nx_bind (nx_ev _) fun _ => nx_bind (nx_fz _) fun v => by
  cases v <;> first | exact nx_stuck | exact nx_bind (nx_subAll _ _) fun _ => nx_pure _
theorem nx_subN (a : Nat) (k : E) (i : Nat) (es : List E) : NX (evS c (.subN a k i es)) := nx_bind (nx_ev _) fun _ => nx_bind (nx_fz _) fun v => by
  split
  · exact nx_bind (nx_subOne _ _ _) fun _ => nx_bind (nx_bindT _ _) fun _ => nx_pure _
  · exact nx_stuck
theorem nx_popA (i j : Nat) : NX (evS c (.popA i j)) := nx_bind (nx_ownVal j) fun u => by
  split
  · split
    · exact nx_bind (nx_setSlot _ _) fun _ => nx_bind (nx_store _ _) fun _ => nx_pure _
    · exact nx_stuck
  · exact nx_stuck
theorem nx_mut (m : Mu) (i : Nat) (es : List E) : NX (evS c (.mut m i es)) := nx_bind (nx_ownVal i) fun _ => nx_if (nx_bind (nx_evs es) fun _ => nx_bind (nx_fzs _) fun _ => nx_bind (nx_ownVal _) fun _ => nx_bind (nx_opt _) fun _ => nx_bind (nx_setSlot _ _) fun _ => nx_pure _) nx_stuck
theorem nx_ret (e : E) : NX (evS c (.ret e)) := nx_bind (nx_ev e) fun r => by
  cases r <;> first | exact nx_pure _ | exact nx_stuck
end
end Ev

/-! Ev2: how the evaluator's data stand in the heap. -/
namespace Ev
open PySem PySem.Spec L2
abbrev Frag := PySem.W.Frag

/-- all of F stands in H -/
def Sub (F H : Hp) : Prop := ∀ a o, F a = some o → H a = some o
theorem Sub.refl (H : Hp) : Sub H H := fun _ _ h => h
theorem Sub.trans {F G H : Hp} (a : Sub F G) (b : Sub G H) : Sub F H := fun c o h => b c o (a c o h)
theorem Sub.upd {H : Hp} {p : Addr} {o : HO} (h : H p = none) : Sub H (upd H p o) := fun b u e => by
  rw [upd_ne (ne_of_none e h)]; exact e
theorem Sub.none {F H : Hp} (s : Sub F H) {p : Addr} (h : H p = none) : F p = none := by
  cases e : F p with
  | none => rfl
  | some o => rw [s p o e] at h; cases h
theorem Rd.sub {F H : Hp} (s : Sub F H) {a : Addr} {u : HO} (h : Rd F a u) : Rd H a u := by
  rcases h with h | ⟨o, h⟩
  · exact .inl (s _ _ h)
  · exact .inr ⟨o, s _ _ h⟩
theorem SqL.sub {K : Frag} {F H : Hp} (s : Sub F H) {a : Addr} {xs : List V} (h : SqL K F a xs) : SqL K H a xs := by
  rcases h with h | h
  · exact .inl (Rd.sub s h)
  · exact .inr h
theorem SqT.sub {K : Frag} {F H : Hp} (s : Sub F H) {a : Addr} {xs : List V} (h : SqT K F a xs) : SqT K H a xs := by
  rcases h with h | h
  · exact .inl (Rd.sub s h)
  · exact .inr h

/-- a tuple whose object is known to have no dict of its own -/
def TupN (K : Frag) (H : Hp) (a : Addr) (xs : List V) : Prop := (∃ o : Obj, H a = some (.frz o (.tup xs)) ∧ o.dict = none) ∨
  ∃ (o : Obj) (its : Array Value) (n : Nat), K.lookup a = some o ∧ o.cls = .type "tuple" ∧ o.dict = none ∧ o.data = .seq its n ∧ its.size ≤ sizeLine ∧ Vals xs its.toList
theorem TupN.sqt {K : Frag} {H : Hp} {a : Addr} {xs : List V} (h : TupN K H a xs) : SqT K H a xs := by
  rcases h with ⟨o, h, _⟩ | ⟨o, its, n, h1, h2, _, h3, h4, h5⟩
  · exact .inl (.inr ⟨o, h⟩)
  · exact .inr ⟨o, its, n, h1, h2, h3, h4, h5⟩
theorem TupN.sub {K : Frag} {F H : Hp} (s : Sub F H) {a : Addr} {xs : List V} (h : TupN K F a xs) : TupN K H a xs := by
  rcases h with ⟨o, h, d⟩ | h
  · exact .inl ⟨o, s _ _ h, d⟩
  · exact .inr h
/-- what a new tuple asks -/
def NewT (H : Hp) (xs : List V) (Q : VK) : Prop := ∀ (p : Addr) (o : Obj), H p = none → o.dict = none → Q (.ref p) (upd H p (.frz o (.tup xs)))
/-! ### data in the heap -/
mutual
inductive Rp (K : Frag) (H : Hp) : V → PV → Prop
  | non : Rp K H .non .none
  | bl (b : Bool) : Rp K H (.bl b) (.bool b)
  | int (i : Int) : Rp K H (.int i) (.int i)
  | str (x : Str) : Rp K H (.str x) (.str x)
  | lst {a : Addr} {xs : List V} {ds : List PV} : Rd H a (.lst xs) → RpAll K H xs ds → Rp K H (.ref a) (.list ds)
  | tup {a : Addr} {xs : List V} {ds : List PV} : TupN K H a xs → RpAll K H xs ds → Rp K H (.ref a) (.tuple ds)
  | scr {a : Addr} {xs : List V} {ds : List PV} : SqL K H a xs → RpAll K H xs ds → Rp K H (.ref a) (.dict [(.none, .list ds)])
  | dct {a : Addr} {kvs : List (Key × V)} {ds : List (PV × PV)} : H a = some (.dK kvs) → RpKv K H kvs ds → Rp K H (.ref a) (.dict ds)
inductive RpAll (K : Frag) (H : Hp) : List V → List PV → Prop
  | nil : RpAll K H [] []
  | cons {v : V} {vs : List V} {d : PV} {ds : List PV} : Rp K H v d → RpAll K H vs ds → RpAll K H (v :: vs) (d :: ds)
inductive RpKv (K : Frag) (H : Hp) : List (Key × V) → List (PV × PV) → Prop
  | nil : RpKv K H [] []
  | int {k : Int} {v : V} {kvs : List (Key × V)} {d : PV} {ds : List (PV × PV)} : Rp K H v d → RpKv K H kvs ds → RpKv K H ((.inl k, v) :: kvs) ((.int k, d) :: ds)
  | str {k : Str} {v : V} {kvs : List (Key × V)} {d : PV} {ds : List (PV × PV)} : Rp K H v d → RpKv K H kvs ds → RpKv K H ((.inr k, v) :: kvs) ((.str k, d) :: ds)
end
mutual
theorem Rp.sub {K : Frag} {F H : Hp} (s : Sub F H) : ∀ {v : V} {d : PV}, Rp K F v d → Rp K H v d
  | _, _, .non => .non
  | _, _, .bl b => .bl b
  | _, _, .int i => .int i
  | _, _, .str x => .str x
  | _, _, .lst h t => .lst (Rd.sub s h) (RpAll.sub s t)
  | _, _, .scr h t => .scr (SqL.sub s h) (RpAll.sub s t)
  | _, _, .tup h t => .tup (TupN.sub s h) (RpAll.sub s t)
  | _, _, .dct h t => .dct (s _ _ h) (RpKv.sub s t)
theorem RpAll.sub {K : Frag} {F H : Hp} (s : Sub F H) : ∀ {vs : List V} {ds : List PV}, RpAll K F vs ds → RpAll K H vs ds
  | _, _, .nil => .nil
  | _, _, .cons h t => .cons (Rp.sub s h) (RpAll.sub s t)
theorem RpKv.sub {K : Frag} {F H : Hp} (s : Sub F H) : ∀ {vs : List (Key × V)} {ds : List (PV × PV)}, RpKv K F vs ds → RpKv K H vs ds
  | _, _, .nil => .nil
  | _, _, .int h t => .int (Rp.sub s h) (RpKv.sub s t)
  | _, _, .str h t => .str (Rp.sub s h) (RpKv.sub s t)
end
theorem RpAll.length {K : Frag} {H : Hp} : ∀ {vs : List V} {ds : List PV}, RpAll K H vs ds → vs.length = ds.length
  | _, _, .nil => rfl
  | _, _, .cons _ t => by simp [RpAll.length t]
theorem RpAll.get {K : Frag} {H : Hp} : ∀ {vs : List V} {ds : List PV} {i : Nat} {d : PV}, RpAll K H vs ds → ds[i]? = some d → ∃ v, vs[i]? = some v ∧ Rp K H v d
  | _, _, _, _, .nil, e => by simp at e
  | _, _, 0, d, .cons h _, e => by simp at e; subst e; exact ⟨_, rfl, h⟩
  | _, _, i + 1, d, .cons _ t, e => by
    obtain ⟨v, h1, h2⟩ := RpAll.get (i := i) (d := d) t (by simpa using e)
    exact ⟨v, by simpa using h1, h2⟩
theorem RpAll.getV {K : Frag} {H : Hp} : ∀ {vs : List V} {ds : List PV} {i : Nat} {v : V}, RpAll K H vs ds → vs[i]? = some v → ∃ d, ds[i]? = some d ∧ Rp K H v d
  | _, _, _, _, .nil, e => by simp at e
  | _, _, 0, d, .cons h _, e => by simp at e; subst e; exact ⟨_, rfl, h⟩
  | _, _, i + 1, d, .cons _ t, e => by
    obtain ⟨v, h1, h2⟩ := RpAll.getV (i := i) (v := d) t (by simpa using e)
    exact ⟨v, by simpa using h1, h2⟩
theorem RpAll.append {K : Frag} {H : Hp} : ∀ {vs ws : List V} {ds es : List PV}, RpAll K H vs ds → RpAll K H ws es → RpAll K H (vs ++ ws) (ds ++ es)
  | _, _, _, _, .nil, s => s
  | _, _, _, _, .cons r t, s => .cons r (RpAll.append t s)
theorem RpAll.reverse {K : Frag} {H : Hp} : ∀ {vs : List V} {ds : List PV}, RpAll K H vs ds → RpAll K H vs.reverse ds.reverse
  | _, _, .nil => .nil
  | _, _, .cons r t => by rw [List.reverse_cons, List.reverse_cons]; exact RpAll.append (RpAll.reverse t) (.cons r .nil)
theorem RpAll.take {K : Frag} {H : Hp} : ∀ {vs : List V} {ds : List PV} (n : Nat), RpAll K H vs ds → RpAll K H (vs.take n) (ds.take n)
  | _, _, 0, _ => .nil
  | _, _, _ + 1, .nil => .nil
  | _, _, n + 1, .cons r t => .cons r (RpAll.take n t)
theorem RpAll.drop {K : Frag} {H : Hp} : ∀ {vs : List V} {ds : List PV} (n : Nat), RpAll K H vs ds → RpAll K H (vs.drop n) (ds.drop n)
  | _, _, 0, r => r
  | _, _, _ + 1, .nil => .nil
  | _, _, n + 1, .cons _ t => RpAll.drop n t
theorem RpAll.set {K : Frag} {H : Hp} {v : V} {d : PV} (r : Rp K H v d) : ∀ {vs : List V} {ds : List PV} (i : Nat), RpAll K H vs ds → RpAll K H (vs.set i v) (ds.set i d)
  | _, _, _, .nil => .nil
  | _, _, 0, .cons _ t => .cons r t
  | _, _, i + 1, .cons q t => .cons q (RpAll.set r i t)
theorem RpAll.rep {K : Frag} {H : Hp} {vs : List V} {ds : List PV} (h : RpAll K H vs ds) : ∀ k : Nat, RpAll K H (List.replicate k vs).flatten (List.replicate k ds).flatten
  | 0 => .nil
  | k + 1 => by
    rw [List.replicate_succ, List.replicate_succ, List.flatten_cons, List.flatten_cons]
    exact h.append (RpAll.rep h k)
theorem RpAll.cons_inv {K : Frag} {H : Hp} {vs : List V} {d : PV} {ds : List PV} (h : RpAll K H vs (d :: ds)) : ∃ v ws, vs = v :: ws ∧ Rp K H v d ∧ RpAll K H ws ds := by
  cases h with
  | cons a b => exact ⟨_, _, rfl, a, b⟩
theorem RpAll.nil_inv {K : Frag} {H : Hp} {vs : List V} (h : RpAll K H vs []) : vs = [] := by
  cases h; rfl
mutual
theorem plain_of_lay : ∀ d : PV, d.canLay0 = true → plain d = true
  | .none, _ => by simp [plain]
  | .bool _, _ => by simp [plain]
  | .int _, _ => by simp [plain]
  | .str _, _ => by simp [plain]
  | .list xs, h => by rw [PyData.canLay0] at h; rw [plain]; exact plains_of_lay xs h
  | .tuple xs, h => by rw [PyData.canLay0] at h; rw [plain]; exact plains_of_lay xs h
  | .dict _, h => by rw [PyData.canLay0] at h; cases h
theorem plains_of_lay : ∀ ds : List PV, PyData.canLayAll0 ds = true → plains ds = true
  | [], _ => by simp [plains]
  | x :: xs, h => by
    rw [PyData.canLayAll0, Bool.and_eq_true] at h
    rw [plains, plain_of_lay x h.1, plains_of_lay xs h.2]; rfl
end
mutual
theorem Rp.dp {K : Frag} {H : Hp} : ∀ {v : V} {d : PV}, Rp K H v d → plain d = true → Dp K H v d
  | _, _, .non, _ => .non
  | _, _, .bl b, _ => .bl b
  | _, _, .int i, _ => .int i
  | _, _, .str x, _ => .str x
  | _, _, .lst h t, p => .lst (.inl h) (RpAll.dp t (by rw [plain] at p; exact p))
  | _, _, .scr _ _, p => by rw [plain] at p; cases p
  | _, _, .tup h t, p => .tup h.sqt (RpAll.dp t (by rw [plain] at p; exact p))
  | _, _, .dct _ _, p => by rw [plain] at p; cases p
theorem RpAll.dp {K : Frag} {H : Hp} : ∀ {vs : List V} {ds : List PV}, RpAll K H vs ds → plains ds = true → DpAll K H vs ds
  | _, _, .nil, _ => .nil
  | _, _, .cons h t, p => by
    rw [plains, Bool.and_eq_true] at p
    exact .cons (Rp.dp h p.1) (RpAll.dp t p.2)
end
/-- the thing itself in H, what it holds in F -/
def RpT (K : Frag) (F H : Hp) (v : V) (d : PV) : Prop := match d with
  | .list ds => ∃ a xs, v = .ref a ∧ Rd H a (.lst xs) ∧ RpAll K F xs ds
  | .dict ds => (∃ a kvs, v = .ref a ∧ H a = some (.dK kvs) ∧ RpKv K F kvs ds) ∨ ∃ a xs es, v = .ref a ∧ ds = [(.none, .list es)] ∧ SqL K H a xs ∧ RpAll K F xs es
  | d => Rp K F v d
theorem Rp.top {K : Frag} {F H : Hp} (s : Sub F H) {v : V} {d : PV} (h : Rp K F v d) : RpT K F H v d := by
  cases h with
  | lst h t => exact ⟨_, _, rfl, Rd.sub s h, t⟩
  | scr h t => exact .inr ⟨_, _, _, rfl, rfl, SqL.sub s h, t⟩
  | dct h t => exact .inl ⟨_, _, rfl, s _ _ h, t⟩
  | non => exact .non
  | bl b => exact .bl b
  | int i => exact .int i
  | str x => exact .str x
  | tup h t => exact .tup h t
theorem RpT.rp {K : Frag} {F H : Hp} (s : Sub F H) {v : V} {d : PV} (h : RpT K F H v d) : Rp K H v d := by
  cases d with
  | list ds => obtain ⟨a, xs, rfl, h1, h2⟩ := h; exact .lst h1 (RpAll.sub s h2)
  | dict ds =>
    rcases h with ⟨a, xs, rfl, h1, h2⟩ | ⟨a, xs, es, rfl, rfl, h1, h2⟩
    · exact .dct h1 (RpKv.sub s h2)
    · exact .scr h1 (RpAll.sub s h2)
  | none => exact Rp.sub s h
  | bool b => exact Rp.sub s h
  | int b => exact Rp.sub s h
  | str b => exact Rp.sub s h
  | tuple b => exact Rp.sub s h
/-- a list or dict that stands at a in H, its items in F -/
def OwnR (K : Frag) (F H : Hp) (a : Addr) (d : PV) : Prop := match d with
  | .list ds => ∃ xs, H a = some (.lst xs) ∧ RpAll K F xs ds
  | .dict ds => ∃ kvs, H a = some (.dK kvs) ∧ RpKv K F kvs ds
  | _ => False
theorem OwnR.top {K : Frag} {F H : Hp} {a : Addr} {d : PV} (h : OwnR K F H a d) : RpT K F H (.ref a) d := by
  cases d with
  | list ds => obtain ⟨xs, h1, h2⟩ := h; exact ⟨a, xs, rfl, .inl h1, h2⟩
  | dict ds => obtain ⟨xs, h1, h2⟩ := h; exact .inl ⟨a, xs, rfl, h1, h2⟩
  | none => exact h.elim
  | bool b => exact h.elim
  | int b => exact h.elim
  | str b => exact h.elim
  | tuple b => exact h.elim
theorem OwnR.there {K : Frag} {F H : Hp} {a : Addr} {d : PV} (h : OwnR K F H a d) : ∃ o, H a = some o := by
  cases d with
  | list ds => obtain ⟨xs, h1, h2⟩ := h; exact ⟨_, h1⟩
  | dict ds => obtain ⟨xs, h1, h2⟩ := h; exact ⟨_, h1⟩
  | none => exact h.elim
  | bool b => exact h.elim
  | int b => exact h.elim
  | str b => exact h.elim
  | tuple b => exact h.elim
theorem OwnR.stay {K : Frag} {F H F' H' : Hp} {a : Addr} {d : PV} (h : OwnR K F H a d) (s : Sub F F') (e : ∀ o, H a = some o → H' a = some o) : OwnR K F' H' a d := by
  cases d with
  | list ds => obtain ⟨xs, h1, h2⟩ := h; exact ⟨xs, e _ h1, RpAll.sub s h2⟩
  | dict ds => obtain ⟨xs, h1, h2⟩ := h; exact ⟨xs, e _ h1, RpKv.sub s h2⟩
  | none => exact h.elim
  | bool b => exact h.elim
  | int b => exact h.elim
  | str b => exact h.elim
  | tuple b => exact h.elim
/-- it is frozen as it stands -/
theorem OwnR.freeze {K : Frag} {F H : Hp} {a : Addr} {d : PV} (h : OwnR K F H a d) (s : Sub F H) (n : F a = none) : ∃ o, H a = some o ∧ (∀ ps, o ≠ .tbl ps) ∧ Rp K (upd F a o) (.ref a) d := by
  have s1 : ∀ o, Sub F (upd F a o) := fun o => Sub.upd n
  cases d with
  | list ds => obtain ⟨xs, h1, h2⟩ := h; exact ⟨_, h1, (fun _ z => by cases z), .lst (.inl upd_same) (RpAll.sub (s1 _) h2)⟩
  | dict ds => obtain ⟨xs, h1, h2⟩ := h; exact ⟨_, h1, (fun _ z => by cases z), .dct upd_same (RpKv.sub (s1 _) h2)⟩
  | none => exact h.elim
  | bool b => exact h.elim
  | int b => exact h.elim
  | str b => exact h.elim
  | tuple b => exact h.elim

/-! ### what is known of the program at large: tables of code objects by name, where the defs stand, the exception classes with their field -/
structure Gt where
  tb : List (Addr × Str)
  fs : Nat → Option Addr
  ex : List (Addr × Option Str)
/-- a heap without its tables -/
def noTb (H : Hp) : Hp := fun b => match H b with
  | some (.tbl _) => none
  | o => o
theorem noTb_sub (H : Hp) : Sub (noTb H) H := fun b o h => by
  unfold noTb at h
  split at h
  · cases h
  · exact h
theorem noTb_at {H : Hp} {b : Addr} {o : HO} (h : H b = some o) (n : ∀ ps, o ≠ .tbl ps) : noTb H b = some o := by
  unfold noTb
  split
  · rename_i ps e
    rw [e] at h
    exact (n _ (Option.some.inj h).symm).elim
  · exact h
theorem noTb_no (H : Hp) (b : Addr) (ps : Array Value) : noTb H b ≠ some (.tbl ps) := fun h => by
  unfold noTb at h
  split at h
  · cases h
  · rename_i n
    exact n _ h
theorem noTb_none {H : Hp} {b : Addr} (h : H b = none) : noTb H b = none := by
  unfold noTb
  rw [h]
theorem Tabs.sub {T : List (Addr × Str)} {H H' : Hp} (t : LamX.Tabs T H) (s : Sub H H') : LamX.Tabs T H' := LamX.Tabs.ext t s
/-- an object that is no table and no code object is written -/
theorem Tabs.write {T : List (Addr × Str)} {H : Hp} {a : Addr} {o o' : HO} (t : LamX.Tabs T H) (h : H a = some o) (h1 : ∀ ps, o ≠ .tbl ps) (h2 : ∀ φ, o ≠ .ext φ) : LamX.Tabs T (upd H a o') := fun p hp => by
  obtain ⟨ps, a1, a2, a3⟩ := t p hp
  have n1 : p.1 ≠ a := fun z => by rw [z, h] at a1; exact h1 _ (Option.some.inj a1)
  refine ⟨ps, by rw [upd_ne n1]; exact a1, a2, fun pos cv hc => ?_⟩
  obtain ⟨c, e1, e2⟩ := a3 pos cv hc
  have n2 : c ≠ a := fun z => by rw [z, h] at e2; exact h2 _ (Option.some.inj e2)
  exact ⟨c, e1, by rw [upd_ne n2]; exact e2⟩

theorem OwnR.kind {K : Frag} {F H : Hp} {a : Addr} {d : PV} (h : OwnR K F H a d) : ∃ o, H a = some o ∧ (∀ ps, o ≠ .tbl ps) ∧ ∀ φ, o ≠ .ext φ := by
  cases d with
  | list ds => obtain ⟨xs, h1, h2⟩ := h; exact ⟨_, h1, (fun _ z => by cases z), (fun _ z => by cases z)⟩
  | dict ds => obtain ⟨xs, h1, h2⟩ := h; exact ⟨_, h1, (fun _ z => by cases z), (fun _ z => by cases z)⟩
  | none => exact h.elim
  | bool b => exact h.elim
  | int b => exact h.elim
  | str b => exact h.elim
  | tuple b => exact h.elim
theorem OwnR.noTb {K : Frag} {F H : Hp} {a : Addr} {d : PV} (h : OwnR K F H a d) : ∃ o, noTb H a = some o := by
  obtain ⟨o, h1, h2, _⟩ := h.kind
  exact ⟨o, noTb_at h1 h2⟩
theorem Tabs.writeO {K : Frag} {F : Hp} {T : List (Addr × Str)} {H : Hp} {a : Addr} {d : PV} {o' : HO} (t : LamX.Tabs T H) (h : OwnR K F H a d) : LamX.Tabs T (upd H a o') := by
  obtain ⟨o, h1, h2, h3⟩ := h.kind
  exact Tabs.write t h1 h2 h3
theorem OwnR.stayK {K : Frag} {F H F' H' : Hp} {a : Addr} {d : PV} (h : OwnR K F H a d) (s : Sub F F') (e : ∀ o, H a = some o → (∀ ps, o ≠ .tbl ps) → H' a = some o) : OwnR K F' H' a d := by
  cases d with
  | list ds => obtain ⟨xs, h1, h2⟩ := h; exact ⟨xs, e _ h1 (fun _ z => by cases z), RpAll.sub s h2⟩
  | dict ds => obtain ⟨xs, h1, h2⟩ := h; exact ⟨xs, e _ h1 (fun _ z => by cases z), RpKv.sub s h2⟩
  | none => exact h.elim
  | bool b => exact h.elim
  | int b => exact h.elim
  | str b => exact h.elim
  | tuple b => exact h.elim
/-! ### the names -/
/-- where a body began: the heap, what was frozen, the lent places and where their things stand, the new things at hand -/
structure Bs where
  H0 : Hp
  F0 : Hp
  I : List (Nat × Addr)
  T : List (Addr × PV)
  nt : ∀ a ps, H0 a ≠ some (.tbl ps)
def SlotR (K : Frag) (γ : Gt) (B : Bs) (F H : Hp) (σ : L2.St) (i : Nat) : Slot → Prop
  | .emp => True
  | .frz d => ∃ v, σ[i]? = some (some v) ∧ Rp K F v d
  | .own d => ∃ a, σ[i]? = some (some (.ref a)) ∧ F a = none ∧ B.H0 a = none ∧ OwnR K F H a d
  | .io d => ∃ a, σ[i]? = some (some (.ref a)) ∧ (i, a) ∈ B.I ∧ F a = none ∧ OwnR K F H a d
  | .fn f => ∃ a, σ[i]? = some (some (.ref a)) ∧ γ.fs f = some a
def isOwn : Slot → Bool
  | .own _ => true | .io _ => true | _ => false
structure EnvR (K : Frag) (γ : Gt) (B : Bs) (F H : Hp) (σ : L2.St) (s : Env) : Prop where
  fh : Sub F H
  len : s.length = σ.length
  slot : ∀ (i : Nat) (x : Slot), s[i]? = some x → SlotR K γ B F H σ i x
  apart : ∀ (i j : Nat) (x y : Slot) (a : Addr), s[i]? = some x → s[j]? = some y → isOwn x = true → isOwn y = true → σ[i]? = some (some (.ref a)) → σ[j]? = some (some (.ref a)) → i = j
  tmp : ∀ p ∈ B.T, F p.1 = none ∧ B.H0 p.1 = none ∧ OwnR K F H p.1 p.2
  tmpA : ∀ p ∈ B.T, ∀ (i : Nat) (x : Slot), s[i]? = some x → isOwn x = true → σ[i]? ≠ some (some (.ref p.1))
  tmpN : (B.T.map (·.1)).Nodup
  lent : ∀ p ∈ B.I, ∃ d, s[p.1]? = some (.io d) ∧ σ[p.1]? = some (some (.ref p.2))
  keep : ∀ a o, B.H0 a = some o → (∀ p ∈ B.I, p.2 ≠ a) → H a = some o
  fnew : ∀ a o, F a = some o → B.F0 a = some o ∨ B.H0 a = none
  fold : Sub B.F0 F
  tab : LamX.Tabs γ.tb H
  ftb : ∀ a ps, F a ≠ some (.tbl ps)
section
variable {K : Frag} {γ : Gt} {B : Bs} {F H F' H' : Hp} {σ : L2.St} {s : Env}
theorem EnvR.lentAt (e : EnvR K γ B F H σ s) {p : Nat × Addr} (hp : p ∈ B.I) : ∃ o, H p.2 = some o ∧ ∀ ps, o ≠ .tbl ps := by
  obtain ⟨d, h1, h2⟩ := e.lent p hp
  obtain ⟨a, h3, _, _, h4⟩ := e.slot _ _ h1
  rw [h2] at h3; cases h3
  obtain ⟨o, q1, q2, _⟩ := h4.kind
  exact ⟨o, q1, q2⟩
/-- what is free now was free at the start -/
theorem EnvR.free0 (e : EnvR K γ B F H σ s) {a : Addr} (h : noTb H a = none) : B.H0 a = none := by
  cases q : B.H0 a with
  | none => rfl
  | some o =>
    rcases Classical.em (∃ p ∈ B.I, p.2 = a) with ⟨p, hp, hn⟩ | hp
    · obtain ⟨o', h', n'⟩ := e.lentAt hp
      rw [hn] at h'
      rw [noTb_at h' n'] at h; cases h
    · rw [noTb_at (e.keep a o q fun p h1 h2 => hp ⟨p, h1, h2⟩) fun ps z => B.nt a ps (by rw [q, z])] at h; cases h
/-- the heap has grown: all that stood stands, what is newly frozen is new -/
structure Grow (F H F' H' : Hp) : Prop where
  ff : Sub F F'
  fh : Sub F' H'
  hh : Sub H H'
  new : ∀ a o, F' a = some o → F a = some o ∨ H a = none
  tb : ∀ a ps, F' a = some (.tbl ps) → F a = some (.tbl ps)
theorem Grow.refl (s : Sub F H) : Grow F H F H := ⟨Sub.refl F, s, Sub.refl H, fun _ _ h => .inl h, fun _ _ h => h⟩
theorem Grow.trans {F2 H2 : Hp} (a : Grow F H F' H') (b : Grow F' H' F2 H2) : Grow F H F2 H2 :=
  ⟨a.ff.trans b.ff, b.fh, a.hh.trans b.hh, fun x o h => by
    rcases b.new x o h with h | h
    · exact a.new x o h
    · exact .inr (a.hh.none h), fun x ps h => a.tb x ps (b.tb x ps h)⟩
/-- a new object, of the one or of the other kind -/
theorem Grow.own (s : Sub F H) {p : Addr} {o : HO} (h : H p = none) : Grow F H F (L2.upd H p o) := ⟨Sub.refl F, s.trans (Sub.upd h), Sub.upd h, fun _ _ q => .inl q, fun _ _ q => q⟩
theorem Grow.frz (s : Sub F H) {p : Addr} {o : HO} (h : H p = none) (nt : ∀ ps, o ≠ .tbl ps := by intro _ z; cases z) : Grow F H (L2.upd F p o) (L2.upd H p o) := by
  refine ⟨Sub.upd (s.none h), fun a u e => ?_, Sub.upd h, fun a u e => ?_, fun a ps e => ?_⟩
  · by_cases hp : a = p
    · subst hp; rw [upd_same] at e ⊢; exact e
    · rw [upd_ne hp] at e ⊢; exact s _ _ e
  · by_cases hp : a = p
    · subst hp; exact .inr h
    · rw [upd_ne hp] at e; exact .inl e
  · by_cases hp : a = p
    · subst hp; rw [upd_same] at e; exact (nt _ (Option.some.inj e)).elim
    · rw [upd_ne hp] at e; exact e
theorem Grow.fnone (g : Grow F H F' H') {a : Addr} {o : HO} (h : F a = none) (hh : H a = some o) : F' a = none := by
  cases e : F' a with
  | none => rfl
  | some u =>
    rcases g.new a u e with h1 | h1
    · rw [h] at h1; cases h1
    · rw [hh] at h1; cases h1
theorem SlotR.grow (g : Grow F H F' H') {i : Nat} {x : Slot} (h : SlotR K γ B F H σ i x) : SlotR K γ B F' H' σ i x := by
  cases x with
  | emp => trivial
  | frz d => obtain ⟨v, h1, h2⟩ := h; exact ⟨v, h1, Rp.sub g.ff h2⟩
  | own d =>
    obtain ⟨a, h1, h2, h3, h4⟩ := h
    obtain ⟨o, ho⟩ := h4.there
    exact ⟨a, h1, g.fnone h2 ho, h3, h4.stay g.ff fun u => g.hh a u⟩
  | io d =>
    obtain ⟨a, h1, h2, h3, h4⟩ := h
    obtain ⟨o, ho⟩ := h4.there
    exact ⟨a, h1, h2, g.fnone h3 ho, h4.stay g.ff fun u => g.hh a u⟩
  | fn f => exact h
theorem EnvR.grow (e : EnvR K γ B F H σ s) (g : Grow F H F' H') : EnvR K γ B F' H' σ s := by
  refine ⟨g.fh, e.len, fun i x h => (e.slot i x h).grow g, e.apart, fun p hp => ?_, e.tmpA, e.tmpN, e.lent, fun a o h n => g.hh _ _ (e.keep a o h n), fun a o h => ?_, e.fold.trans g.ff, Tabs.sub e.tab g.hh, fun a ps h => e.ftb a ps (g.tb a ps h)⟩
  · obtain ⟨h1, h2, h3⟩ := e.tmp p hp
    obtain ⟨o, ho⟩ := h3.there
    exact ⟨g.fnone h1 ho, h2, h3.stay g.ff fun u => g.hh _ u⟩
  · rcases g.new a o h with h | h
    · exact e.fnew a o h
    · exact .inr (e.free0 (noTb_none h))

/-- a result -/
def RvR (K : Frag) (B : Bs) (F H : Hp) (σ : L2.St) (s : Env) (v : V) : Rv → Prop
  | .frz d => Rp K F v d
  | .own d => ∃ a, v = .ref a ∧ F a = none ∧ B.H0 a = none ∧ OwnR K F H a d ∧ (∀ (i : Nat) (x : Slot), s[i]? = some x → isOwn x = true → σ[i]? ≠ some (some (.ref a))) ∧ ∀ p ∈ B.T, p.1 ≠ a
  | .slot i => σ[i]? = some (some v)
/-- a result for good -/
def RvF (K : Frag) (F : Hp) (σ : L2.St) (v : V) : Rv → Prop
  | .frz d => Rp K F v d
  | .own d => Rp K F v d
  | .slot i => σ[i]? = some (some v)
theorem RvF.sub {v : V} {r : Rv} (h : RvF K F σ v r) (s : Sub F F') : RvF K F' σ v r := by
  cases r with
  | frz d => exact Rp.sub s h
  | own d => exact Rp.sub s h
  | slot i => exact h
/-- a thing of our own is frozen -/
theorem EnvR.freeze (e : EnvR K γ B F H σ s) {a : Addr} {o : HO} (h : H a = some o) (h0 : B.H0 a = none) (ns : ∀ (i : Nat) (x : Slot), s[i]? = some x → isOwn x = true → σ[i]? ≠ some (some (.ref a))) (nt : ∀ p ∈ B.T, p.1 ≠ a) (hn : F a = none) (ntb : ∀ ps, o ≠ .tbl ps) :
    EnvR K γ B (L2.upd F a o) H σ s := by
  have s1 : Sub F (L2.upd F a o) := Sub.upd hn
  have none' : ∀ b, F b = none → b ≠ a → L2.upd F a o b = none := fun b q n => by rw [upd_ne n]; exact q
  refine ⟨fun b u q => ?_, e.len, fun i x q => ?_, e.apart, fun p hp => ?_, e.tmpA, e.tmpN, e.lent, e.keep, fun b u q => ?_, e.fold.trans s1, e.tab, fun b ps q => ?_⟩
  · by_cases hb : b = a
    · subst hb; rw [upd_same] at q; cases q; exact h
    · rw [upd_ne hb] at q; exact e.fh _ _ q
  · have := e.slot i x q
    cases x with
    | emp => trivial
    | frz d => obtain ⟨v, h1, h2⟩ := this; exact ⟨v, h1, Rp.sub s1 h2⟩
    | own d =>
      obtain ⟨b, h1, h2, h3, h4⟩ := this
      have hb : b ≠ a := fun z => ns i _ q rfl (by rw [h1, z])
      exact ⟨b, h1, none' b h2 hb, h3, h4.stay s1 fun u hu => hu⟩
    | io d =>
      obtain ⟨b, h1, h2, h3, h4⟩ := this
      have hb : b ≠ a := fun z => ns i _ q rfl (by rw [h1, z])
      exact ⟨b, h1, h2, none' b h3 hb, h4.stay s1 fun u hu => hu⟩
    | fn f => exact this
  · obtain ⟨h1, h2, h3⟩ := e.tmp p hp
    exact ⟨none' _ h1 (nt p hp), h2, h3.stay s1 fun u hu => hu⟩
  · by_cases hb : b = a
    · subst hb; exact .inr h0
    · rw [upd_ne hb] at q; exact e.fnew b u q
  · by_cases hb : b = a
    · subst hb; rw [upd_same] at q; exact ntb _ (Option.some.inj q)
    · rw [upd_ne hb] at q; exact e.ftb b ps q
theorem RvR.good (e : EnvR K γ B F H σ s) {v : V} {r : Rv} (h : RvR K B F H σ s v r) : ∃ F', Sub F F' ∧ EnvR K γ B F' H σ s ∧ RvF K F' σ v r := by
  cases r with
  | frz d => exact ⟨F, Sub.refl F, e, h⟩
  | slot i => exact ⟨F, Sub.refl F, e, h⟩
  | own d =>
    obtain ⟨a, rfl, h1, h2, h3, h4, h5⟩ := h
    obtain ⟨o, ho, hnt, hr⟩ := h3.freeze e.fh h1
    exact ⟨L2.upd F a o, Sub.upd h1, e.freeze ho h2 h4 h5 h1 hnt, hr⟩
/-- an operand -/
theorem opd_ok (e : EnvR K γ B F H σ s) {v : V} {r : Rv} {d : PV} {s' : Env} (h : RvF K F σ v r) (ho : opd r s = .ok d s') : s' = s ∧ RpT K F H v d := by
  cases r with
  | frz x => injection ho with h1 h2; subst h1 h2; exact ⟨rfl, Rp.top e.fh h⟩
  | own x => injection ho with h1 h2; subst h1 h2; exact ⟨rfl, Rp.top e.fh h⟩
  | slot i =>
    obtain ⟨h1, h2⟩ := opt_inv ho
    refine ⟨h2, ?_⟩
    cases q : s[i]? with
    | none => rw [q] at h1; cases h1
    | some x =>
      rw [q] at h1
      have w := e.slot i x q
      have hv : σ[i]? = some (some v) := h
      cases x with
      | emp => cases h1
      | frz y => cases h1; obtain ⟨u, a, b⟩ := w; rw [hv] at a; cases a; exact Rp.top e.fh b
      | own y => cases h1; obtain ⟨u, a, _, _, b⟩ := w; rw [hv] at a; cases a; exact b.top
      | io y => cases h1; obtain ⟨u, a, _, _, b⟩ := w; rw [hv] at a; cases a; exact b.top
      | fn y => cases h1
theorem fz_ok {v : V} {r : Rv} {d : PV} {s' : Env} (h : RvF K F σ v r) (ho : fz r s = .ok d s') : s' = s ∧ Rp K F v d := by
  cases r with
  | frz x => injection ho with h1 h2; subst h1 h2; exact ⟨rfl, h⟩
  | own x => injection ho with h1 h2; subst h1 h2; exact ⟨rfl, h⟩
  | slot i => cases ho
end
end Ev

/-! Ev3: the operators. -/
namespace Ev
open PySem PySem.Spec L2
section
variable {K : Frag} {F H F' H' : Hp}
/-- a result that stands behind an operation -/
def ResR (K : Frag) (H F' H' : Hp) (z : V) : Rv → Prop
  | .frz d => Rp K F' z d
  | .own d => ∃ a, z = .ref a ∧ H a = none ∧ F' a = none ∧ OwnR K F' H' a d
  | .slot _ => False
theorem ResR.rv {γ : Gt} {B : Bs} {σ : L2.St} {s : Env} {z : V} {r : Rv} (e : EnvR K γ B F H σ s) (g : Grow F H F' H') (h : ResR K H F' H' z r) : RvR K B F' H' σ s z r := by
  cases r with
  | frz d => exact h
  | slot i => exact h.elim
  | own d =>
    obtain ⟨a, rfl, h1, h2, h3⟩ := h
    refine ⟨a, rfl, h2, e.free0 (noTb_none h1), h3, fun i x q ow z => ?_, fun p hp z => ?_⟩
    · have w := e.slot i x q
      cases x with
      | emp => cases ow
      | frz d => cases ow
      | fn f => cases ow
      | own d => obtain ⟨b, w1, _, _, w4⟩ := w; rw [z] at w1; cases w1; obtain ⟨o, ho⟩ := w4.there; rw [h1] at ho; cases ho
      | io d => obtain ⟨b, w1, _, _, w4⟩ := w; rw [z] at w1; cases w1; obtain ⟨o, ho⟩ := w4.there; rw [h1] at ho; cases ho
    · obtain ⟨_, _, w⟩ := e.tmp p hp
      obtain ⟨o, ho⟩ := w.there
      rw [z, h1] at ho; cases ho
/-- what is wanted behind an operation that gives r -/
def Want (K : Frag) (F H : Hp) (r : Rv) (Q : VK) : Prop := ∀ z H' F', Grow F H F' H' → ResR K H F' H' z r → Q z H'
theorem Want.frz {d : PV} {Q : VK} (w : Want K F H (.frz d) Q) (s : Sub F H) {z : V} (h : Rp K F z d) : Q z H := w z H F (Grow.refl s) h
/-- a new frozen tuple -/
theorem Want.tup {ds : List PV} {xs : List V} {Q : VK} (w : Want K F H (.frz (.tuple ds)) Q) (s : Sub F H) (h : RpAll K F xs ds) : NewT H xs Q := fun p o hp d =>
  w _ _ _ (Grow.frz s hp) (.tup (.inl ⟨o, upd_same, d⟩) (RpAll.sub (Sub.upd (s.none hp)) h))
theorem Want.lst {ds : List PV} {xs : List V} {Q : VK} (w : Want K F H (.own (.list ds)) Q) (s : Sub F H) (h : RpAll K F xs ds) : ∀ p, H p = none → Q (.ref p) (upd H p (.lst xs)) := fun p hp =>
  w _ _ _ (Grow.own s hp) ⟨p, rfl, hp, s.none hp, xs, upd_same, h⟩

/-! inversions -/
theorem RpT.int {v : V} {i : Int} (h : RpT K F H v (.int i)) : v = .int i := by
  have h : Rp K F v (.int i) := h
  cases h; rfl
theorem RpT.bl {v : V} {i : Bool} (h : RpT K F H v (.bool i)) : v = .bl i := by
  have h : Rp K F v (.bool i) := h
  cases h; rfl
theorem RpT.str {v : V} {i : Str} (h : RpT K F H v (.str i)) : v = .str i := by
  have h : Rp K F v (.str i) := h
  cases h; rfl
theorem RpT.non {v : V} (h : RpT K F H v .none) : v = .non := by
  have h : Rp K F v .none := h
  cases h; rfl
theorem RpT.tupN {v : V} {ds : List PV} (h : RpT K F H v (.tuple ds)) : ∃ a xs, v = .ref a ∧ TupN K F a xs ∧ RpAll K F xs ds := by
  have h : Rp K F v (.tuple ds) := h
  cases h with
  | tup a b => exact ⟨_, _, rfl, a, b⟩
theorem RpT.tup {v : V} {ds : List PV} (h : RpT K F H v (.tuple ds)) : ∃ a xs, v = .ref a ∧ SqT K F a xs ∧ RpAll K F xs ds := by
  obtain ⟨a, xs, e, h1, h2⟩ := h.tupN
  exact ⟨a, xs, e, h1.sqt, h2⟩
theorem RpT.lst {v : V} {ds : List PV} (h : RpT K F H v (.list ds)) : ∃ a xs, v = .ref a ∧ Rd H a (.lst xs) ∧ RpAll K F xs ds := h
theorem Rp.non_iff {v : V} {d : PV} (h : Rp K H v d) : decide (v = .non) = isNone d := by
  cases h <;> rfl
end

section
variable {X : Cx}
theorem OpR.imp {f : Value → Value → Sem Value} {r r' : R2} (h : OpR X f r) (i : ∀ x y H Q, r' x y H Q → r x y H Q) : OpR X f r' := fun pins s σ H x y v u Q I a b q => h pins s σ H x y v u Q I a b (i _ _ _ _ q)
theorem UnR.imp {f : Value → Sem Value} {r r' : V → Hp → VK → Prop} (h : UnR X f r) (i : ∀ x H Q, r' x H Q → r x H Q) : UnR X f r' := fun pins s σ H x v Q I a q => h pins s σ H x v Q I a (i _ _ _ q)
theorem CallR.imp {f : Value} {r r' : List V → Hp → VK → Prop} (h : CallR X f r) (i : ∀ x H Q, r' x H Q → r x H Q) : CallR X f r' := fun pins s σ H x v Q I a q => h pins s σ H x v Q I a (i _ _ _ q)
theorem IxR.imp {r r' : R2} (h : IxR X r) (i : ∀ x y H Q, r' x y H Q → r x y H Q) : IxR X r' := fun a b pins s σ H x y v u Q I c d q => h a b pins s σ H x y v u Q I c d (i _ _ _ _ q)
theorem MtR.imp {id : String} {r r' : V → List V → Hp → VK → Prop} (h : MtR X id r) (i : ∀ x xs H Q, r' x xs H Q → r x xs H Q) : MtR X id r' := fun pins s σ H x xs v u Q I c d q => h pins s σ H x xs v u Q I c d (i _ _ _ _ q)

theorem pow_ok (i j : Int) (h : powOk i j = true) : 0 ≤ j ∧ (Builtin.Int.intBits i : Int) * j ≤ 2 ^ 27 := by
  unfold powOk at h
  simp only [Bool.and_eq_true, decide_eq_true_eq] at h
  obtain ⟨⟨h1, h2⟩, h3⟩ := h
  have h4 : Builtin.Int.intBits i ≤ 1000 := intBits_le_iff.mpr h3
  refine ⟨h1, ?_⟩
  have h5 : (Builtin.Int.intBits i : Int) * j ≤ 1000 * 1000 := Int.mul_le_mul (by omega) h2 h1 (by decide)
  exact Int.le_trans h5 (by decide)
theorem op_powW : OpR X (binaryOp .Pow) (rI (fun i j => powOk i j = true) fun i j => .int (i ^ j.toNat)) := opI fun i j t u s Q E hc q => PyProof.Rows.pow_int (pow_ok i j hc).1 (pow_ok i j hc).2 q
theorem mul_ok {i j : Int} (h : mulOk i j = true) : IntMulOk i j := by
  unfold mulOk at h
  simp only [Bool.or_eq_true, Bool.and_eq_true, decide_eq_true_eq] at h
  rcases h with (h | h) | ⟨h1, h2⟩
  · exact CMul.ok (.inl (by omega))
  · exact CMul.ok (.inr (by omega))
  · exact CMulW.ok (wide_mul h1 h2 (by decide) (by decide) (by decide))
theorem op_mulM : OpR X (binaryOp .Mult) (rI (fun i j => mulOk i j = true) fun i j => .int (i * j)) := opI fun _ _ _ _ _ _ _ hc q => PyProof.Rows.mul_int q (mul_ok hc)

theorem lstR {pins : List (Addr × Obj)} {σ : L2.St} {H : Hp} {s : Shared} {l : Addr} {xs : List V} (I : Inv X pins σ H s) (h : Rd H l (.lst xs)) : xs.length ≤ sizeLine ∧ ∃ (its : List Value) (n : Nat), Vals xs its ∧ xs.length = its.length ∧ s.heap.get? l = some { cls := .type "list", data := .seq its.toArray n } := by
  obtain ⟨h1, its, n, r, e⟩ := h.ok I.hok
  exact ⟨h1, its, n, r, r.length, e⟩
/-- xs * k, the list of any kind -/
def rRepR : R2 := fun x y H Q => ∃ l k xs, x = .ref l ∧ y = .int k ∧ Rd H l (.lst xs) ∧ -1000 ≤ k ∧ k ≤ 1000 ∧ xs.length ≤ 1000 ∧ ∀ p, H p = none → Q (.ref p) (upd H p (.lst (List.replicate k.toNat xs).flatten))
theorem op_repR : OpR X (binaryOp .Mult) rRepR := by
  intro pins s σ H x y v u Q I rx ry ⟨l, k, xs, ex, ey, hR, k1, k2, hz, q⟩
  subst ex ey
  obtain rfl : v = Value.ref l := rx
  obtain ⟨tk, rfl⟩ := ry
  obtain ⟨_, us, m, ru, hu, at0⟩ := lstR I hR
  have hs : us.toArray.size ≤ 1000 := by rw [List.size_toArray, ← hu]; exact hz
  have hm : us.toArray.size * k.toNat ≤ 1000000 := Nat.le_trans (Nat.mul_le_mul hs (show k.toNat ≤ 1000 by omega)) (by decide)
  have big := sizeLine_eq
  have g1 : ¬ (!Builtin.List.listFitsIndex k) = true := by rw [fitsIndex_both (by omega) (by omega)]; decide
  have g2 : ¬ Builtin.List.listTooLong (us.toArray.size * k.toNat) = true := by rw [notLongL (by omega)]; decide
  have fr : ∀ j : Nat, List.foldl (fun a b => a ++ b) #[] (List.replicate j us.toArray) = (List.replicate j us).flatten.toArray := fun j => by have z := foldl_rep us j []; rw [List.nil_append] at z; exact z
  have all : List.foldl (fun a b => a ++ b) #[] (List.replicate (if us.toArray.isEmpty = true then 0 else k.toNat) us.toArray) = (List.replicate k.toNat us).flatten.toArray := by
    rw [fr]; cases us <;> simp
  have ty : ∃ o : Obj, s.heap.get? l = some o ∧ o.cls = .type "list" := ⟨_, at0, rfl⟩
  refine wpAny_binaryOp_repeat_ref (T := "list") (U := "int") (by decide) ty (fun z => typeIs_int z k tk) noFill_list_mul PySem.F.fills_int_mul PySem.F.slot_int_rmul repeat_list PySem.F.slot_int_index.lookup ?_
  refine call_meets PySem.F.slot_int_rmul (typeIs_int s k tk) PySem.F.entry_int_rmul (PySem.F.args_int_rmul_2 _ _) (int___rmul___int_list k tk l us.toArray m) ⟨at0, rfl, ty, ?_⟩
  refine call_meets PySem.F.slot_list_mul ty PySem.F.entry_list_mul (PySem.F.args_list_mul_2 _ _) (AutoListH.list___mul___list_int_3 l us.toArray m k tk g1 (by omega) g2) ⟨at0, ?_⟩
  rw [all]
  refine ⟨.ref _, _, I.lnew (t' := s.toks) (ru.rep k.toNat) ?_, rfl, q _ I.fresh⟩
  rw [PyProof.Rows.lm_len_rep_flat]
  have : k.toNat * xs.length ≤ 1000 * 1000 := Nat.mul_le_mul (by omega) hz
  omega
/-- xs + ys, the lists of any kind -/
def rCatL : R2 := fun x y H Q => ∃ l b xs zs, x = .ref l ∧ y = .ref b ∧ Rd H l (.lst xs) ∧ Rd H b (.lst zs) ∧ xs.length + zs.length ≤ sizeLine ∧ ∀ p, H p = none → Q (.ref p) (upd H p (.lst (xs ++ zs)))
theorem op_catL : OpR X (binaryOp .Add) rCatL := by
  intro pins s σ H x y v u Q I rx ry h
  obtain ⟨l, b, xs, zs, rfl, rfl, hH, hB, hz, q⟩ := h
  cases rx
  cases ry
  obtain ⟨z, its, n, r, hl, e⟩ := lstR I hH
  obtain ⟨z2, its2, n2, r2, hl2, e2⟩ := lstR I hB
  refine PySem.P.add_list e e2 ?_ (by rw [List.size_toArray, List.size_toArray]; omega)
  have ea : its.toArray ++ its2.toArray = (its ++ its2).toArray := by simp
  rw [ea]
  exact ⟨.ref _, _, I.lnew (t' := s.toks) (r.append r2) (by rw [List.length_append]; omega), rfl, q _ I.fresh⟩
def rExtL : V → List V → Hp → VK → Prop := fun x vs H Q => ∃ l b xs zs, x = .ref l ∧ vs = [.ref b] ∧ H l = some (.lst xs) ∧ Rd H b (.lst zs) ∧ xs.length + zs.length ≤ sizeLine ∧ Q .non (upd H l (.lst (xs ++ zs)))
theorem mt_extL : MtM X "list.extend" rExtL := by
  intro pins s σ H x vs v us Q I rx rv h
  obtain ⟨l, b, xs, zs, rfl, rfl, hH, hB, hz, q⟩ := h
  cases rx
  obtain ⟨u, rfl, ru⟩ := rv.one
  cases ru
  obtain ⟨z, its, n, r, hl, e⟩ := I.lstM hH
  obtain ⟨z2, its2, n2, r2, hl2, e2⟩ := lstR I hB
  have hsz : its.toArray.size + its2.toArray.size ≤ sizeLine := by rw [List.size_toArray, List.size_toArray]; omega
  have hlong : ¬ (!its.toArray.isEmpty && Builtin.List.listTooLong (its.toArray.size + its2.toArray.size)) = true := by
    rw [notLongL hsz, Bool.and_false]
    exact Bool.false_ne_true
  refine call_meets F.slot_list_extend ⟨_, e, rfl⟩ F.entry_list_extend (F.args_list_extend_2 _ _)
    (AutoSeq1.list_extend_list_list_0 l its.toArray n b its2.toArray n2 hlong (by rw [List.size_toArray]; omega) (by omega)) ⟨e, e2, ?_⟩
  refine ⟨.non, _, I.lset (its' := its ++ its2) hH e (by simp) (r.append r2) ?_, rfl, q⟩
  rw [List.length_append]
  omega

/-- an operation by the evaluator's data -/
def OpS (X : Cx) (f : Value → Value → Sem Value) (u v : PV) (r : Rv) : Prop :=
  OpR X f fun x y H Q => ∃ F, Sub F H ∧ RpT X.K F H x u ∧ RpT X.K F H y v ∧ Want X.K F H r Q
theorem ops_int {f : Value → Value → Sem Value} {C : Int → Int → Prop} {g : Int → Int → Int} {i j : Int} (h : OpR X f (rI C fun i j => .int (g i j))) (c : C i j) : OpS X f (.int i) (.int j) (.frz (.int (g i j))) :=
  OpR.imp h fun x y H Q ⟨F, s, hx, hy, w⟩ => ⟨i, j, hx.int, hy.int, c, w.frz s (.int _)⟩
theorem ops_int0 {f : Value → Value → Sem Value} {g : Int → Int → Int} {i j : Int} (h : OpR X f (rI0 fun i j => .int (g i j))) : OpS X f (.int i) (.int j) (.frz (.int (g i j))) :=
  OpR.imp h fun x y H Q ⟨F, s, hx, hy, w⟩ => ⟨i, j, hx.int, hy.int, w.frz s (.int _)⟩
theorem ops_intB {f : Value → Value → Sem Value} {g : Int → Int → Bool} {i j : Int} (h : OpR X f (rI0 fun i j => .bl (g i j))) : OpS X f (.int i) (.int j) (.frz (.bool (g i j))) :=
  OpR.imp h fun x y H Q ⟨F, s, hx, hy, w⟩ => ⟨i, j, hx.int, hy.int, w.frz s (.bl _)⟩
theorem lim_eq : lim = sizeLine := by rw [sizeLine_eq]; rfl
end
section
open PyProof.Rows
variable {X : Cx}
/-- a new tuple is laid: its object is known -/
theorem Inv.newT {pins : List (Addr × Obj)} {σ : L2.St} {H : Hp} {s : Shared} {h' : Heap} {t' : Nat} {a : Addr} {its : List Value} {xs : List V} {n : Nat} (I : L2.Inv X pins σ H s) (k : ∀ b u, s.heap.get? b = some u → h'.get? b = some u) (hp : s.heap.objs.size ≤ a)
    (e : h'.get? a = some { cls := .type "tuple", data := .seq its.toArray n }) (r : Vals xs its) (z : xs.length ≤ sizeLine) {Q : VK} (q : NewT H xs Q) : EP X pins σ Q (.ref a) { s with heap := h', toks := t' } :=
  ⟨.ref a, _, I.laid (t' := t') (o := .frz { cls := .type "tuple", data := .seq its.toArray n } (.tup xs)) k hp ⟨e, z, its, r, _, e, rfl, n, rfl⟩, rfl, q a _ (I.hok.fresh hp) rfl⟩
/-- a display of a tuple -/
def tTupN (t : TA) : TE := fun σ H Q => t σ H fun xs H1 => xs.length ≤ sizeLine ∧ NewT H1 xs Q
theorem pe_tupN {es : List Expr} {t : TA} {x1 : Nat} {pos : Pos} (h : PA X es t) : PE X (.Tuple es x1 pos) (tTupN t) := by
  refine ⟨fun pins s σ H Q I hq => ?_⟩
  exact wpAny_Tuple_spliced (thn (h.run pos pins s σ H _ I hq) fun us s1 ⟨xs, H1, I1, r, z, q⟩ => ⟨by rw [← r.length]; exact z, Inv.newT (t' := s1.toks) I1 (fun b u e => Heap.get?_push_of_some _ e) (Nat.le_refl _) (Heap.get?_push_size _ rfl) r z q⟩)
/-- tuple(x) -/
theorem call_tuple_ofN : CallR X (.type "tuple") (fun xs H Q => ∃ p ys, xs = [.ref p] ∧ ((SqL X.K H p ys ∧ NewT H ys Q) ∨ (SqT X.K H p ys ∧ Q (.ref p) H))) := by
  intro pins s σ H xs us Q I r h
  obtain ⟨p, ys, rfl, h⟩ := h
  obtain ⟨u, rfl, rx⟩ := vals1 r
  cases rx
  rcases h with ⟨hq, q⟩ | ⟨hq, q⟩
  · obtain ⟨its, r', pl, hz⟩ := I.list hq
    refine call_tuple_list pl.isList (fun h' kp => ?_) (by rw [List.size_toArray, ← r'.length]; exact hz)
    have I1 : L2.Inv X pins σ H { s with heap := h' } := I.kept (t' := s.toks) kp
    exact Inv.newT (t' := s.toks) I1 (fun b o e => Heap.get?_push_of_some _ e) (Nat.le_refl _) (Heap.get?_push_size _ rfl) r' hz q
  · obtain ⟨its, r', pl, hz⟩ := I.tuple hq
    exact call_tuple_same pl ⟨.ref p, H, I, rfl, q⟩
/-- a slice of a tuple: the whole of it is the tuple itself -/
theorem sl_tupN : SlR X (fun x lo hi H Q => ∃ a xs, x = .ref a ∧ SqT X.K H a xs ∧ (HT.sIx xs.length 0 lo = 0 ∧ HT.sIx xs.length xs.length hi = xs.length → Q (.ref a) H) ∧
    (¬ (HT.sIx xs.length 0 lo = 0 ∧ HT.sIx xs.length xs.length hi = xs.length) → NewT H (cutV xs lo hi) Q)) := by
  intro pins s σ H x v vl vu lo hi sl Q I rx hs pl pu ⟨a, xs, ex, hx, q1, q2⟩
  subst ex
  cases rx
  obtain ⟨its, r, ht, hz⟩ := I.tuple hx
  have hlen : its.toArray.size = xs.length := by rw [List.size_toArray]; exact r.length.symm
  refine ⟨"tuple", _, PyProof.Rows.slot_tuple_getitem.lookup, ht.typeIs, ?_⟩
  by_cases hw : HT.sIx xs.length 0 lo = 0 ∧ HT.sIx xs.length xs.length hi = xs.length
  · exact L2.getItem_tuple_whole ht hs pl pu (by rw [hlen]; exact hw) ⟨.ref a, H, I, rfl, q1 hw⟩
  · refine HT.getItem_tuple_cut ht hs pl pu (by rw [hlen]; exact hw) ?_ (by rw [hlen]; exact hz)
    rw [hlen]
    exact Inv.newT (t' := s.toks) I (fun b ob q => Heap.get?_push_of_some _ q) (Nat.le_refl _) (Heap.get?_push_size _ rfl) ((r.drop _).take _) (Nat.le_trans (cutV_length xs lo hi) hz) (q2 hw)
/-- t + u -/
theorem op_catN : OpR X (binaryOp .Add) (fun x y H Q => ∃ a b xs ys, x = .ref a ∧ y = .ref b ∧ SqT X.K H a xs ∧ SqT X.K H b ys ∧ xs.length + ys.length ≤ sizeLine ∧
    (xs = [] → Q (.ref b) H) ∧ (xs ≠ [] → ys = [] → Q (.ref a) H) ∧ (xs ≠ [] → ys ≠ [] → NewT H (xs ++ ys) Q)) := by
  intro pins s σ H x y v u Q I rx ry ⟨a, b, xs, ys, ex, ey, ha, hb, hz, q0, q1, q2⟩
  subst ex ey
  cases rx
  cases ry
  obtain ⟨its, r1, p1, _⟩ := I.tuple ha
  obtain ⟨its2, r2, p2, _⟩ := I.tuple hb
  by_cases hx : xs = []
  · subst hx
    cases r1
    exact cat_tup0 p1 p2 ⟨.ref b, H, I, rfl, q0 rfl⟩
  · have n1 : its ≠ [] := fun z => hx (by subst z; cases r1; rfl)
    refine HT.cat_tup p1 p2 n1 (fun z => ⟨.ref a, H, I, rfl, q1 hx (by subst z; cases r2; rfl)⟩) (fun z => ?_) (by rw [← r1.length, ← r2.length]; exact hz)
    exact Inv.newT (t' := s.toks) I (fun b ob q => Heap.get?_push_of_some _ q) (Nat.le_refl _) (Heap.get?_push_size _ rfl) (r1.append r2) (by rw [List.length_append]; exact hz) (q2 hx fun w => z (by subst w; cases r2; rfl))
/-- t * k -/
theorem op_repN : OpR X (binaryOp .Mult) (fun x y H Q => ∃ l k xs, x = .ref l ∧ y = .int k ∧ SqT X.K H l xs ∧ xs ≠ [] ∧ 2 ≤ k ∧ k ≤ 1000 ∧ xs.length ≤ 1000 ∧ NewT H (List.replicate k.toNat xs).flatten Q) := by
  intro pins s σ H x y v u Q I rx ry ⟨l, k, xs, ex, ey, hT, hne, h1, h2, hz, q⟩
  subst ex ey
  cases rx
  obtain ⟨t, rfl⟩ := ry
  obtain ⟨its, r, ⟨⟨cls, dd, data, sl⟩, ho, hc, n, hd⟩, hs⟩ := I.tuple hT
  simp only at hc hd
  subst hc hd
  have hle : its.length = xs.length := r.length.symm
  have hi : its.toArray.isEmpty = false := by
    cases its with
    | nil => cases r; exact absurd rfl hne
    | cons a b => rfl
  have big : k.toNat * xs.length ≤ 1000 * 1000 := Nat.mul_le_mul (by omega) hz
  have hm : ((its.toArray.size : Nat) : Int) * k ≤ 1000000 := by
    rw [List.size_toArray, hle]
    have a1 : ((xs.length : Nat) : Int) * k ≤ 1000 * k := Int.mul_le_mul_of_nonneg_right (by omega) (by omega)
    omega
  have fl : (List.replicate k.toNat its).flatten.length ≤ sizeLine := by rw [PyProof.Rows.lm_len_rep_flat, hle, sizeLine_eq]; omega
  have fx : (List.replicate k.toNat xs).flatten.length ≤ sizeLine := by rw [PyProof.Rows.lm_len_rep_flat, sizeLine_eq]; omega
  refine wpAny_binaryOp_repeat_ref (T := "tuple") (U := "int") (by decide) ⟨_, ho, rfl⟩ (fun s' => typeIs_int s' k t) noFill_tuple_mul F.fills_int_mul F.slot_int_rmul repeat_tuple F.slot_int_index.lookup
    (call_meets F.slot_int_rmul (typeIs_int s k t) F.entry_int_rmul (F.args_int_rmul_2 _ _) (int_rmul_tuple k t l its.toArray n dd sl)
      ⟨ho, rfl, ⟨_, ho, rfl⟩, call_meets F.slot_tuple_mul ⟨_, ho, rfl⟩ F.entry_tuple_mul (F.args_tuple_mul_2 _ _) (tuple_mulW l its.toArray n dd sl k t ?c0 ?c1 ?c2 (by omega) ?c4 (by rw [size_rep, List.size_toArray]; exact fl)) ⟨ho, ?_⟩⟩)
  case c0 => rw [decide_eq_false (by omega), decide_eq_false (by omega)]; rfl
  case c1 => rw [hi, Bool.false_or]; exact beq_eq_false_iff_ne.mpr (by omega)
  case c2 => rw [hi, Bool.or_false]; exact decide_eq_false (by omega)
  case c4 => unfold Builtin.Tuple.tupleTooMany; rw [sizeLine_eq]; exact decide_eq_false (by omega)
  rw [size_rep]
  exact Inv.newT (t' := s.toks) I (fun b ob q => Heap.get?_push_of_some _ q) (Nat.le_refl _) (Heap.get?_push_size _ rfl) (r.rep k.toNat) fx q
end
end Ev

/-! EvD: dicts, read and written. -/
namespace Ev
open PySem PySem.Spec L2 PyProof.Rows
section
variable {K : Frag} {H : Hp}
theorem keyQ_kV {F H : Hp} {y : V} {k : PV} {q : Sum Int Str} (h : RpT K F H y k) (e : keyQ k = some q) : y = kV q := by
  cases k <;> first | (cases e; done) | skip
  · cases e; exact h.int
  · cases e; exact h.str
/-- what stands at a key -/
def RpO (K : Frag) (H : Hp) (q : Sum Int Str) (kvs : List (Key × V)) (ds : List (PV × PV)) : Prop :=
  (valV kvs q = none ∧ getK ds q = none) ∨ ∃ v d, valV kvs q = some v ∧ getK ds q = some d ∧ Rp K H v d
theorem getK_pos {p : PV × PV} {r : List (PV × PV)} {q : Sum Int Str} (e : isK q p.1 = true) : getK (p :: r) q = some p.2 := by simp [getK, List.find?_cons, e]
theorem getK_neg {p : PV × PV} {r : List (PV × PV)} {q : Sum Int Str} (e : isK q p.1 = false) : getK (p :: r) q = getK r q := by simp [getK, List.find?_cons, e]
theorem RpKv.get {q : Sum Int Str} : ∀ {kvs : List (Key × V)} {ds : List (PV × PV)}, RpKv K H kvs ds → RpO K H q kvs ds
  | _, _, .nil => .inl ⟨rfl, rfl⟩
  | _, _, .int (k := k) (v := v) (d := d) h t => by
    by_cases e : q = .inl k
    · subst e
      exact .inr ⟨v, d, valV_pos rfl, getK_pos (by simp [isK]), h⟩
    · have e1 : ¬ (Sum.inl k : Key) = q := fun z => e z.symm
      have e2 : isK q (.int k) = false := by
        cases q with
        | inl i => simp only [isK, decide_eq_false_iff_not]; exact fun z => e (by rw [z])
        | inr i => rfl
      have := RpKv.get (q := q) t
      unfold RpO at this ⊢
      rw [valV_neg (p := ((Sum.inl k : Key), v)) e1, getK_neg (p := (.int k, d)) e2]
      exact this
  | _, _, .str (k := k) (v := v) (d := d) h t => by
    by_cases e : q = .inr k
    · subst e
      exact .inr ⟨v, d, valV_pos rfl, getK_pos (by simp [isK]), h⟩
    · have e1 : ¬ (Sum.inr k : Key) = q := fun z => e z.symm
      have e2 : isK q (.str k) = false := by
        cases q with
        | inr i => simp only [isK, decide_eq_false_iff_not]; exact fun z => e (by rw [z])
        | inl i => rfl
      have := RpKv.get (q := q) t
      unfold RpO at this ⊢
      rw [valV_neg (p := ((Sum.inr k : Key), v)) e1, getK_neg (p := (.str k, d)) e2]
      exact this
theorem RpKv.any {q : Sum Int Str} : ∀ {kvs : List (Key × V)} {ds : List (PV × PV)}, RpKv K H kvs ds → (kvs.any fun kv => decide (kv.1 = q)) = ds.any fun p => isK q p.1
  | _, _, .nil => rfl
  | _, _, .int (k := k) h t => by
    rw [List.any_cons, List.any_cons, RpKv.any t]
    refine congrArg (· || _) ?_
    cases q <;> simp [isK]
  | _, _, .str (k := k) h t => by
    rw [List.any_cons, List.any_cons, RpKv.any t]
    refine congrArg (· || _) ?_
    cases q <;> simp [isK]
theorem RpKv.map {q : Sum Int Str} {v : V} {d : PV} (r : Rp K H v d) : ∀ {kvs : List (Key × V)} {ds : List (PV × PV)}, RpKv K H kvs ds → RpKv K H (kvs.map fun kv => if kv.1 = q then (kv.1, v) else kv) (ds.map fun p => if isK q p.1 = true then (p.1, d) else p)
  | _, _, .nil => .nil
  | _, _, .int (k := k) h t => by
    rw [List.map_cons, List.map_cons]
    by_cases e : (Sum.inl k : Key) = q
    · subst e
      rw [if_pos rfl, if_pos (by simp [isK])]
      exact .int r (RpKv.map r t)
    · rw [if_neg e, if_neg (by
        cases q with
        | inl i => simp only [isK, decide_eq_true_eq]; exact fun z => e (by rw [z])
        | inr i => simp [isK])]
      exact .int h (RpKv.map r t)
  | _, _, .str (k := k) h t => by
    rw [List.map_cons, List.map_cons]
    by_cases e : (Sum.inr k : Key) = q
    · subst e
      rw [if_pos rfl, if_pos (by simp [isK])]
      exact .str r (RpKv.map r t)
    · rw [if_neg e, if_neg (by
        cases q with
        | inr i => simp only [isK, decide_eq_true_eq]; exact fun z => e (by rw [z])
        | inl i => simp [isK])]
      exact .str h (RpKv.map r t)
theorem RpKv.snoc {k : PV} {q : Sum Int Str} {v : V} {d : PV} (e : keyQ k = some q) (r : Rp K H v d) : ∀ {kvs : List (Key × V)} {ds : List (PV × PV)}, RpKv K H kvs ds → RpKv K H (kvs ++ [(q, v)]) (ds ++ [(k, d)])
  | _, _, .nil => by
    cases k <;> first | (cases e; done) | skip
    · cases e; exact .int r .nil
    · cases e; exact .str r .nil
  | _, _, .int h t => .int h (RpKv.snoc e r t)
  | _, _, .str h t => .str h (RpKv.snoc e r t)
theorem RpKv.put {k : PV} {q : Sum Int Str} {v : V} {d : PV} {kvs : List (Key × V)} {ds : List (PV × PV)} (h : RpKv K H kvs ds) (e : keyQ k = some q) (r : Rp K H v d) : RpKv K H (putK kvs q v) (putD ds k q d) := by
  unfold putK putD
  rw [h.any]
  split
  · exact h.map r
  · exact h.snoc e r
theorem RpKv.noScr {kvs : List (Key × V)} {d : PV} {ds : List (PV × PV)} (h : RpKv K H kvs ((.none, d) :: ds)) : False := by cases h
/-- a dict that is not the script -/
theorem RpT.dct {F : Hp} {v : V} {ds : List (PV × PV)} (h : RpT K F H v (.dict ds)) (n : ∀ d, ds ≠ [(.none, d)]) : ∃ a kvs, v = .ref a ∧ H a = some (.dK kvs) ∧ RpKv K F kvs ds := by
  rcases h with h | ⟨a, xs, es, _, e, _⟩
  · exact h
  · exact (n _ e).elim
theorem RpKv.intKeys : ∀ {kvs : List (Key × V)} {ds : List (PV × PV)} {ks : List Int}, RpKv K H kvs ds → Ev.intKeys ds = some ks → kvs.map (·.1) = ks.map Sum.inl
  | _, _, _, .nil, e => by cases e; rfl
  | _, _, _, .int (ds := ds) h t, e => by
    rw [Ev.intKeys] at e
    cases q : Ev.intKeys ds with
    | none => rw [q] at e; cases e
    | some ks =>
      rw [q] at e
      cases e
      rw [List.map_cons, List.map_cons, RpKv.intKeys t q]
  | _, _, _, .str h t, e => by cases e
end
section
variable {X : Cx}
/-- d[y] by values -/
def rIxDct : R2 := fun x y H Q => ∃ a v, x = .ref a ∧ DGet H a y (some v) ∧ Q v H
theorem ix_dct (hu : X.A.units + 1 < cLine) : IxR X rIxDct := by
  intro value slice pins s σ H x y v u Q I rx ry h hs
  obtain ⟨a, r, rfl, g, q⟩ := h
  obtain rfl : v = Value.ref a := rx
  exact tail_any (dict_typeIs I g) slot_dict_getitem.lookup (d_getItem hu I g ry fun w' s' I' rw' => ⟨r, H, I', rw', q⟩) hs
def rInDct : R2 := fun y x H Q => ∃ a o, x = .ref a ∧ DGet H a y o ∧ Q (.bl o.isSome) H
def rNotInDct : R2 := fun y x H Q => ∃ a o, x = .ref a ∧ DGet H a y o ∧ Q (.bl (!o.isSome)) H
theorem op_inDct (hu : X.A.units + 1 < cLine) : OpR X (compareOp .In) rInDct := by
  intro pins s σ H y x u v Q I ry rx h
  obtain ⟨a, o, rfl, g, q⟩ := h
  obtain rfl : v = Value.ref a := rx
  exact d_in hu I g ry fun s' I' => ⟨.bl _, H, I', rfl, q⟩
theorem op_notInDct (hu : X.A.units + 1 < cLine) : OpR X (compareOp .NotIn) rNotInDct := by
  intro pins s σ H y x u v Q I ry rx h
  obtain ⟨a, o, rfl, g, q⟩ := h
  obtain rfl : v = Value.ref a := rx
  exact d_notIn hu I g ry fun s' I' => ⟨.bl _, H, I', rfl, q⟩
end
end Ev

/-! EvQ: t * 1, () * k: the tuple itself. -/
namespace Ev
open PySem PySem.Spec L2 PyProof.Rows
theorem tuple_mul1W (l : Addr) (items : Array Value) (n : Nat) (dd : Option Addr) (sl : Array (Option Value)) (x : Int) (u : Tok) (c0 : (decide (x < -(2 ^ 63)) || decide (x ≥ 2 ^ 63)) = false) (c1 : (items.isEmpty || x == 1) = true) :
    Meets (Builtin.«tuple.__mul__» ⟨[.ref l, .int x u], []⟩) (fun _ R s => s.heap.get? l = some { cls := .type "tuple", dict := dd, data := .seq items n, slots := sl } ∧ R (.ok (.ret (Value.ref l))) s) :=
  .of_wp fun prog w A R s h => by
    obtain ⟨hp, g, d, tk, os⟩ := s
    obtain ⟨hl, h⟩ := h
    have f1 := AutoSeq1.idx_int
    wp_walk using wpAny_loadPart' hl
    repeat (first
      | (refine wpAny_ite_false (decide_eq_false (by rw [c0]; exact Bool.false_ne_true)) ?_; wp_walk using wpAny_loadPart' hl)
      | (refine wpAny_ite_true (decide_eq_true (by rw [c1])) ?_; wp_walk using wpAny_loadPart' hl))
    exact ⟨_, rfl, h⟩
def rRep1 (K : PySem.W.Frag) : R2 := fun x y H Q => ∃ l k xs, x = .ref l ∧ y = .int k ∧ SqT K H l xs ∧ (xs = [] ∨ k = 1) ∧ -1000 ≤ k ∧ k ≤ 1000 ∧ Q (.ref l) H
section
variable {X : Cx}
theorem op_rep1 : OpR X (binaryOp .Mult) (rRep1 X.K) := by
  intro pins s σ H x y v u Q I rx ry h
  obtain ⟨l, k, xs, rfl, rfl, hT, hne, h1, h2, q⟩ := h
  cases rx
  obtain ⟨t, rfl⟩ := ry
  obtain ⟨its, r, ⟨⟨cls, dd, data, sl⟩, ho, hc, n, hd⟩, hs⟩ := I.tuple hT
  simp only at hc hd
  subst hc hd
  have hle : its.length = xs.length := r.length.symm
  have c0 : (decide (k < -(2 ^ 63)) || decide (k ≥ 2 ^ 63)) = false := by
    rw [decide_eq_false (by omega), decide_eq_false (by omega)] <;> rfl
  have c1 : (its.toArray.isEmpty || k == 1) = true := by
    rcases hne with rfl | rfl
    · have : its = [] := List.eq_nil_of_length_eq_zero hle
      subst this
      rfl
    · simp
  refine wpAny_binaryOp_repeat_ref (T := "tuple") (U := "int") (by decide) ⟨_, ho, rfl⟩ (fun s' => typeIs_int s' k t) noFill_tuple_mul F.fills_int_mul F.slot_int_rmul repeat_tuple F.slot_int_index.lookup
    (call_meets F.slot_int_rmul (typeIs_int s k t) F.entry_int_rmul (F.args_int_rmul_2 _ _) (int_rmul_tuple k t l its.toArray n dd sl)
      ⟨ho, rfl, ⟨_, ho, rfl⟩, call_meets F.slot_tuple_mul ⟨_, ho, rfl⟩ F.entry_tuple_mul (F.args_tuple_mul_2 _ _) (tuple_mul1W l its.toArray n dd sl k t c0 c1) ⟨ho, ?_⟩⟩)
  exact ⟨.ref l, H, I, rfl, q⟩
end
end Ev

/-! Ev4: the operators' rules by the evaluator's data. -/
namespace Ev
open PySem PySem.Spec L2
theorem ints_some : ∀ {xs : List PV} {ns : List Int}, ints? xs = some ns → xs = ns.map .int
  | [], ns, h => by cases h; rfl
  | .int i :: r, ns, h => by
    unfold ints? at h
    cases q : ints? r with
    | none => rw [q] at h; cases h
    | some ms => rw [q] at h; cases h; rw [List.map_cons, ← ints_some q]
  | .none :: _, _, h => by cases h
  | .bool _ :: _, _, h => by cases h
  | .str _ :: _, _, h => by cases h
  | .list _ :: _, _, h => by cases h
  | .tuple _ :: _, _, h => by cases h
  | .dict _ :: _, _, h => by cases h
theorem RpAll.ints {K : Frag} {F : Hp} : ∀ {vs : List V} {ns : List Int}, RpAll K F vs (ns.map .int) → vs = ns.map V.int
  | _, [], h => by cases h; rfl
  | _, n :: ns, h => by
    cases h with
    | cons a b => cases a; rw [List.map_cons, RpAll.ints b]
section
variable {X : Cx}
theorem bin_ok {op : Operator} {u v : PV} {r : Rv} (h : binOp op u v = some r) : OpS X (binaryOp op) u v r := by
  unfold binOp at h
  split at h
  · cases h; exact ops_int0 op_add
  · -- tuples
    split at h
    · rename_i xs ys hz
      cases h
      refine OpR.imp op_catN fun x y H Q ⟨F, s, hx, hy, w⟩ => ?_
      obtain ⟨a, vs, rfl, ha, ra⟩ := hx.tupN
      obtain ⟨b, ws, rfl, hb, rb⟩ := hy.tupN
      refine ⟨a, b, vs, ws, rfl, rfl, SqT.sub s ha.sqt, SqT.sub s hb.sqt, by rw [ra.length, rb.length, ← lim_eq]; exact hz, fun e => ?_, fun e1 e2 => ?_, fun _ _ => ?_⟩
      · subst e
        cases ra
        exact w.frz s (.tup hb rb)
      · subst e2
        cases rb
        rw [List.append_nil] at w
        exact w.frz s (.tup ha ra)
      · exact w.tup s (ra.append rb)
    · cases h
  · split at h
    · rename_i xs ys hz
      cases h
      refine OpR.imp op_catL fun x y H Q ⟨F, s, hx, hy, w⟩ => ?_
      obtain ⟨a, vs, rfl, ha, ra⟩ := hx.lst
      obtain ⟨b, ws, rfl, hb, rb⟩ := hy.lst
      exact ⟨a, b, vs, ws, rfl, rfl, ha, hb, by rw [ra.length, rb.length, ← lim_eq]; exact hz, w.lst s (ra.append rb)⟩
    · cases h
  · split at h
    · rename_i xs ys hz
      cases h
      refine OpR.imp op_add_str fun x y H Q ⟨F, s, hx, hy, w⟩ => ?_
      exact ⟨xs, ys, hx.str, hy.str, by rw [← lim_eq]; exact hz, w.frz s (.str _)⟩
    · cases h
  · cases h; exact ops_int0 op_sub
  · split at h
    · rename_i hc
      cases h; exact ops_int op_mulM hc
    · cases h
  · split at h
    · rename_i xs k hc
      cases h
      obtain ⟨h1, h2, h3, h4⟩ := hc
      refine OpR.imp op_repN fun x y H Q ⟨F, s, hx, hy, w⟩ => ?_
      obtain ⟨a, vs, rfl, ha, ra⟩ := hx.tup
      refine ⟨a, k, vs, rfl, hy.int, SqT.sub s ha, fun e => ?_, h2, h3, by rw [ra.length]; exact h4, w.tup s (ra.rep _)⟩
      subst e
      cases ra
      exact h1 rfl
    · split at h
      · rename_i hc
        cases h
        obtain ⟨h1, h2, h3⟩ := hc
        refine OpR.imp op_rep1 fun x y H Q ⟨F, s, hx, hy, w⟩ => ?_
        obtain ⟨a, vs, rfl, ha, ra⟩ := hx.tupN
        refine ⟨a, _, vs, rfl, hy.int, SqT.sub s ha.sqt, ?_, h2, h3, w.frz s (.tup ha ra)⟩
        rcases h1 with h1 | h1
        · subst h1
          cases ra
          exact .inl rfl
        · exact .inr h1
      · cases h
  · split at h
    · rename_i xs k hc
      cases h
      obtain ⟨h1, h2, h3⟩ := hc
      refine OpR.imp op_repR fun x y H Q ⟨F, s, hx, hy, w⟩ => ?_
      obtain ⟨a, vs, rfl, ha, ra⟩ := hx.lst
      exact ⟨a, k, vs, rfl, hy.int, ha, h1, h2, by rw [ra.length]; exact h3, w.lst s (ra.rep _)⟩
    · cases h
  · split at h
    · rename_i i j hc
      cases h
      exact ops_int (C := CDivW) op_fdivW (wide_div (b := 4000) hc.1 (by have := hc.1; have := hc.2; omega) (by decide) (by decide))
    · cases h
  · split at h
    · rename_i hc
      cases h
      exact ops_int op_mod hc
    · cases h
  · split at h
    · rename_i hc
      cases h; exact ops_int op_powW hc
    · cases h
  · split at h
    · rename_i hc
      cases h
      refine ops_int op_shl ⟨hc.1, by omega, by have := hc.2.2; omega⟩
    · cases h
  · split at h
    · rename_i hc
      cases h
      exact ops_int (C := fun _ j => 0 ≤ j) op_shr hc
    · cases h
  · cases h; exact ops_int0 op_and
  · cases h; exact ops_int0 op_or
  · cases h
theorem eq_ok {u v : PV} {b : Bool} (hu : X.A.units + 65 < cLine) (h : eqOp u v = some b) : OpS X (compareOp .Eq) u v (.frz (.bool b)) := by
  unfold eqOp at h
  split at h
  · rename_i hs
    cases h
    rw [Bool.and_eq_true] at hs
    refine OpR.imp (op_eqD (by omega)) fun x y H Q ⟨F, s, hx, hy, w⟩ => ?_
    exact ⟨u, v, (hx.rp s).dp (plain_of_lay _ (SeqAt.canLay_of_shaped hs.1)), (hy.rp s).dp (plain_of_lay _ (SeqAt.canLay_of_shaped hs.2)), hs.1, hs.2, w.frz s (.bl _)⟩
  · cases h
theorem ne_ok {u v : PV} {b : Bool} (hu : X.A.units + 65 < cLine) (h : eqOp u v = some b) : OpS X (compareOp .NotEq) u v (.frz (.bool (!b))) := by
  unfold eqOp at h
  split at h
  · rename_i hs
    cases h
    rw [Bool.and_eq_true] at hs
    refine OpR.imp (op_neD (by omega)) fun x y H Q ⟨F, s, hx, hy, w⟩ => ?_
    exact ⟨u, v, (hx.rp s).dp (plain_of_lay _ (SeqAt.canLay_of_shaped hs.1)), (hy.rp s).dp (plain_of_lay _ (SeqAt.canLay_of_shaped hs.2)), hs.1, hs.2, w.frz s (.bl _)⟩
  · cases h
theorem Rp.flat {K : Frag} {H : Hp} {v : V} {d : PV} (h : Rp K H v d) (f : flat d = true) : flatV v = true := by
  cases h <;> first | rfl | cases f
theorem RpAll.flat {K : Frag} {H : Hp} : ∀ {vs : List V} {ds : List PV}, RpAll K H vs ds → ds.all Ev.flat = true → vs.all flatV = true
  | _, _, .nil, _ => rfl
  | _, _, .cons h t, f => by
    rw [List.all_cons, Bool.and_eq_true] at f ⊢
    exact ⟨Rp.flat h f.1, RpAll.flat t f.2⟩
theorem Rp.eqV {K : Frag} {H : Hp} {v w : V} {d e : PV} (h : Rp K H v d) (f : Ev.flat d = true) (h' : Rp K H w e) (f' : Ev.flat e = true) : L2.eqV v w = PyData.eqv d e := by
  cases h <;> cases h' <;> first | rfl | (cases f; done) | (cases f'; done) | (simp [L2.eqV, PyData.eqv])
theorem RpAll.inV {K : Frag} {H : Hp} {w : V} {e : PV} (h' : Rp K H w e) (f' : Ev.flat e = true) : ∀ {vs : List V} {ds : List PV}, RpAll K H vs ds → ds.all Ev.flat = true → L2.inV w vs = ds.any fun y => PyData.eqv y e
  | _, _, .nil, _ => rfl
  | _, _, .cons h t, f => by
    rw [List.all_cons, Bool.and_eq_true] at f
    unfold L2.inV
    rw [List.any_cons, List.any_cons, Rp.eqV h f.1 h' f']
    have := RpAll.inV h' f' t f.2
    unfold L2.inV at this
    rw [this]
theorem in_ok {neg : Bool} {u v : PV} {b : Bool} (hu : X.A.units + 65 < cLine) (h : inOp u v = some b) : OpS X (compareOp (if neg then .NotIn else .In)) u v (.frz (.bool (if neg then !b else b))) := by
  unfold inOp at h
  split at h
  · rename_i ys
    split at h
    · rename_i hs
      cases h
      rw [Bool.and_eq_true] at hs
      cases neg
      · refine OpR.imp (op_inD hu) fun x y H Q ⟨F, s, hx, hy, w⟩ => ?_
        exact ⟨u, ys, (hx.rp s).dp (plain_of_lay _ (SeqAt.canLay_of_shaped hs.1)), (hy.rp s).dp (plain_of_lay _ (SeqAt.canLay_of_shaped hs.2)), hs.1, hs.2, w.frz s (.bl _)⟩
      · refine OpR.imp (op_notInD hu) fun x y H Q ⟨F, s, hx, hy, w⟩ => ?_
        exact ⟨u, ys, (hx.rp s).dp (plain_of_lay _ (SeqAt.canLay_of_shaped hs.1)), (hy.rp s).dp (plain_of_lay _ (SeqAt.canLay_of_shaped hs.2)), hs.1, hs.2, w.frz s (.bl _)⟩
    · cases h
  · rename_i ys
    split at h
    · rename_i hs
      cases h
      rw [Bool.and_eq_true] at hs
      have fu : ∀ {F H : Hp} {x : V}, RpT X.K F H x u → Rp X.K F x u := fun {F H x} h => by
        cases u <;> first | exact h | cases hs.1
      cases neg
      · refine OpR.imp op_in_seq fun x y H Q ⟨F, s, hx, hy, w⟩ => ?_
        obtain ⟨a, vs, rfl, ha, ra⟩ := hy.tup
        refine ⟨a, vs, rfl, .inr (SqT.sub s ha), (fu hx).flat hs.1, ra.flat hs.2, ?_⟩
        rw [RpAll.inV (fu hx) hs.1 ra hs.2]
        exact w.frz s (.bl _)
      · refine OpR.imp op_notIn_seq fun x y H Q ⟨F, s, hx, hy, w⟩ => ?_
        obtain ⟨a, vs, rfl, ha, ra⟩ := hy.tup
        refine ⟨a, vs, rfl, .inr (SqT.sub s ha), (fu hx).flat hs.1, ra.flat hs.2, ?_⟩
        rw [RpAll.inV (fu hx) hs.1 ra hs.2]
        exact w.frz s (.bl _)
    · cases h
  · cases h
  · rename_i kvs hn
    cases hq : keyQ u with
    | none => rw [hq] at h; cases h
    | some q =>
      rw [hq] at h
      cases h
      have go : ∀ {x y : V} {H : Hp} {F : Hp}, RpT X.K F H x u → RpT X.K F H y (.dict kvs) → ∃ a o, y = .ref a ∧ DGet H a x o ∧ o.isSome = (getK kvs q).isSome := fun {x y H F} hx hy => by
        obtain ⟨a, vs, rfl, ha, hk⟩ := hy.dct fun d e => hn d (by rw [e])
        refine ⟨a, valV vs q, rfl, by rw [keyQ_kV hx hq]; exact DGet.k ha, ?_⟩
        rcases hk.get (q := q) with ⟨e1, e2⟩ | ⟨v, d, e1, e2, _⟩ <;> rw [e1, e2] <;> rfl
      cases neg
      · refine OpR.imp (op_inDct (by omega)) fun x y H Q ⟨F, s, hx, hy, w⟩ => ?_
        obtain ⟨a, o, e1, e2, e3⟩ := go hx hy
        exact ⟨a, o, e1, e2, by rw [e3]; exact w.frz s (.bl _)⟩
      · refine OpR.imp (op_notInDct (by omega)) fun x y H Q ⟨F, s, hx, hy, w⟩ => ?_
        obtain ⟨a, o, e1, e2, e3⟩ := go hx hy
        exact ⟨a, o, e1, e2, by rw [e3]; exact w.frz s (.bl _)⟩
  · cases h
/-- a tuple == () -/
theorem op_eqT0 (hu : X.A.units < cLine) : OpR X (compareOp .Eq) fun x y H Q => ∃ a b xs, x = .ref a ∧ y = .ref b ∧ SqT X.K H a xs ∧ SqT X.K H b [] ∧ Q (.bl xs.isEmpty) H := by
  intro pins s σ H x y v u Q I rx ry ⟨a, b, xs, ex, ey, ha, hb, q⟩
  subst ex ey
  obtain rfl : v = Value.ref a := rx
  obtain rfl : u = Value.ref b := ry
  obtain ⟨its, r, pl, _⟩ := I.tuple ha
  obtain ⟨its2, r2, pl2, _⟩ := I.tuple hb
  cases r2
  refine SeqAt.eq_tupleAt (e := fun _ => true) pl pl2 hu (fun j h1 h2 => by simp at h2) ?_
  refine ⟨.bl xs.isEmpty, H, I, ?_, q⟩
  cases r <;> simp [RelV]
def rTupI (K : Frag) (rel : Int → Int → Bool) (lenr : Nat → Nat → Bool) : R2 := fun x y H Q => ∃ (a b : Addr) (ns ms : List Int), x = .ref a ∧ y = .ref b ∧ SqT K H a (ns.map V.int) ∧ SqT K H b (ms.map V.int) ∧
  Q (.bl (Ob.lexAt (fun j => decide (ns.getD j 0 = ms.getD j 0)) (fun j => rel (ns.getD j 0) (ms.getD j 0)) (lenr ns.length ms.length) 0 (min ns.length ms.length))) H
theorem op_tupI {op : CmpOp} {rel : Int → Int → Bool} {lenr : Nat → Nat → Bool}
    (hR : ∀ {A : Around} {s : Shared} {l b : Addr} {items items2 : Array Value} {e r : Nat → Bool} (hl : s.heap.IsTuple l items) (hb : s.heap.IsTuple b items2) (hu : A.units < cLine)
      (he : ∀ j (h1 : j < items.size) (h2 : j < items2.size), SeqAt.EqAt A.in1 s items[j] items2[j] (e j))
      (hr : ∀ j (h1 : j < items.size) (h2 : j < items2.size), e j = false → Ob.RcOp op A.in1 s items[j] items2[j] (r j)), Ob.RcOp op A s (.ref l) (.ref b) (Ob.lexAt e r (lenr items.size items2.size) 0 (min items.size items2.size)))
    (hI : ∀ {A : Around} {s : Shared} (a b : Int) (t u : Tok), Ob.RcOp op A s (.int a t) (.int b u) (rel a b)) (hop : ∀ u v, compareOp op u v = richCompare op u v) (hu : X.A.units < cLine) : OpR X (compareOp op) (rTupI X.K rel lenr) := by
  intro pins s σ H x y v u Q I rx ry h
  obtain ⟨a, b, ns, ms, rfl, rfl, ha, hb, q⟩ := h
  cases rx
  cases ry
  obtain ⟨its, r1, p1, _⟩ := I.tuple ha
  obtain ⟨its2, r2, p2, _⟩ := I.tuple hb
  have i1 : PyProof.Rows.IntsAre its ns := Vals.ints r1
  have i2 : PyProof.Rows.IntsAre its2 ms := Vals.ints r2
  have e1 : its.toArray.size = ns.length := by rw [List.size_toArray]; exact i1.length
  have e2 : its2.toArray.size = ms.length := by rw [List.size_toArray]; exact i2.length
  have at1 : ∀ j (h1 : j < its.toArray.size), ∃ t, its.toArray[j] = .int (ns.getD j 0) t := fun j h1 => PyProof.Rows.IntsAre.int_at i1 _ _ (by simp at h1; simp [h1])
  have at2 : ∀ j (h1 : j < its2.toArray.size), ∃ t, its2.toArray[j] = .int (ms.getD j 0) t := fun j h1 => PyProof.Rows.IntsAre.int_at i2 _ _ (by simp at h1; simp [h1])
  have R := hR (A := X.A) (s := s) (e := fun j => decide (ns.getD j 0 = ms.getD j 0)) (r := fun j => rel (ns.getD j 0) (ms.getD j 0)) p1 p2 hu (fun j h1 h2 => by
    obtain ⟨t, et⟩ := at1 j h1
    obtain ⟨t', et'⟩ := at2 j h2
    rw [et, et']
    have z : (ns.getD j 0 == ms.getD j 0) = decide (ns.getD j 0 = ms.getD j 0) := by
      by_cases q : ns.getD j 0 = ms.getD j 0
      · rw [decide_eq_true q]; exact beq_iff_eq.mpr q
      · rw [decide_eq_false q]; exact beq_eq_false_iff_ne.mpr q
    rw [← z]
    exact SeqAt.EqAt.int_int _ _ _ _) (fun j h1 h2 _ => by
    obtain ⟨t, et⟩ := at1 j h1
    obtain ⟨t', et'⟩ := at2 j h2
    rw [et, et']
    exact hI _ _ _ _)
  rw [e1, e2] at R
  have z : wpAny (model X.prog X.w) X.A (richCompare op (.ref a) (.ref b)) (EP X pins σ Q) X.xe s := R X.prog X.w X.xe (EP X pins σ Q) ⟨.bl _, H, I, rfl, q⟩
  rw [hop]
  exact z
theorem tup_ok {op : CmpOp} {rel : Int → Int → Bool} {lenr : Nat → Nat → Bool} {xs ys : List PV} {b : Bool} (hO : OpR X (compareOp op) (rTupI X.K rel lenr)) (h : tupCmp rel lenr xs ys = some b) : OpS X (compareOp op) (.tuple xs) (.tuple ys) (.frz (.bool b)) := by
  unfold tupCmp at h
  cases q1 : ints? xs with
  | none => rw [q1] at h; cases h
  | some ns =>
    cases q2 : ints? ys with
    | none => rw [q1, q2] at h; cases h
    | some ms =>
      rw [q1, q2] at h
      cases h
      rw [ints_some q1, ints_some q2]
      refine OpR.imp hO fun x y H Q ⟨F, s, hx, hy, w⟩ => ?_
      obtain ⟨a, vs, rfl, ha, ra⟩ := hx.tup
      obtain ⟨c, ws, rfl, hc, rc⟩ := hy.tup
      rw [ra.ints] at ha
      rw [rc.ints] at hc
      exact ⟨a, c, ns, ms, rfl, rfl, SqT.sub s ha, SqT.sub s hc, w.frz s (.bl _)⟩
theorem cmp_ok {op : CmpOp} {u v : PV} {b : Bool} (hu : X.A.units + 65 < cLine) (h : cmpOp op u v = some b) : OpS X (compareOp op) u v (.frz (.bool b)) := by
  unfold cmpOp at h
  split at h
  · cases h
    refine OpR.imp (op_eqT0 (by omega)) fun x y H Q ⟨F, s, hx, hy, w⟩ => ?_
    obtain ⟨a, vs, rfl, ha, ra⟩ := hx.tup
    obtain ⟨b, ws, rfl, hb, rb⟩ := hy.tup
    cases rb
    refine ⟨a, b, vs, rfl, rfl, SqT.sub s ha, SqT.sub s hb, ?_⟩
    have e : ∀ {us : List V} {ds : List PV}, RpAll X.K F us ds → us.isEmpty = ds.isEmpty := fun h => by cases h <;> rfl
    rw [e ra]
    exact w.frz s (.bl _)
  · exact eq_ok hu h
  · cases q : eqOp u v with
    | none => rw [q] at h; cases h
    | some c => rw [q] at h; cases h; exact ne_ok hu q
  · cases h; exact ops_intB op_lt
  · cases h; exact ops_intB op_le
  · cases h; exact ops_intB op_gt
  · cases h; exact ops_intB op_ge
  · exact tup_ok (op_tupI (fun hl hb hu he hr => Ob.RcOp.tuples_lt hl hb hu he hr) (fun _ _ _ _ => Ob.RcOp.lt_int _ _ _ _) (fun _ _ => rfl) (by omega)) h
  · exact tup_ok (op_tupI (fun hl hb hu he hr => Ob.RcOp.tuples_le hl hb hu he hr) (fun _ _ _ _ => Ob.RcOp.le_int _ _ _ _) (fun _ _ => rfl) (by omega)) h
  · exact tup_ok (op_tupI (fun hl hb hu he hr => Ob.RcOp.tuples_gt hl hb hu he hr) (fun _ _ _ _ => Ob.RcOp.gt_int _ _ _ _) (fun _ _ => rfl) (by omega)) h
  · exact tup_ok (op_tupI (fun hl hb hu he hr => Ob.RcOp.tuples_ge hl hb hu he hr) (fun _ _ _ _ => Ob.RcOp.ge_int _ _ _ _) (fun _ _ => rfl) (by omega)) h
  · cases h
    refine OpR.imp op_isN fun x y H Q ⟨F, s, hx, hy, w⟩ => ⟨hy.non, ?_⟩
    rw [(hx.rp s).non_iff]
    exact w.frz s (.bl _)
  · cases h
    refine OpR.imp op_notN fun x y H Q ⟨F, s, hx, hy, w⟩ => ⟨hy.non, ?_⟩
    rw [(hx.rp s).non_iff]
    exact w.frz s (.bl _)
  · cases h
    rename_i a c
    refine OpR.imp op_is_bl fun x y H Q ⟨F, s, hx, hy, w⟩ => ⟨a, c, hx.bl, hy.bl, ?_⟩
    rw [← Bool.beq_eq_decide_eq]
    exact w.frz s (.bl _)
  · cases h
    rename_i a c
    refine OpR.imp op_isnot_bl fun x y H Q ⟨F, s, hx, hy, w⟩ => ⟨a, c, hx.bl, hy.bl, ?_⟩
    rw [← Bool.beq_eq_decide_eq]
    exact w.frz s (.bl _)
  · exact in_ok (neg := false) hu h
  · cases q : inOp u v with
    | none => rw [q] at h; cases h
    | some c => rw [q] at h; cases h; exact in_ok (neg := true) hu q
  · cases h
end
end Ev

/-! Ev5: sorted of a list or a tuple. -/
namespace Ev
open PySem PySem.W PySem.Calls PyProof.Rows
section
variable {prog : Program} {w : World} {A : Around} {E : Value → Shared → Prop} {s : Shared}
theorem collect_tup {l : Addr} {vs : List Value} {Q : List Value → Shared → Prop} (hl : IsTup s.heap l vs.toArray)
    (h : Q vs { s with heap := (s.heap.push (seqObj "list" #[] 0)).update s.heap.objs.size (Obj.mapSeq (· ++ vs.toArray)) }) (hsz : vs.length ≤ sizeLine) :
    wpAny (model prog w) A (collect (.ref l)) Q E s := by
  obtain ⟨o, ho, hc, n, hd⟩ := id hl
  unfold collect
  refine wpAny_bind (wpAny_runValue (codeAny_builtin entry_proto_collect' ?_))
  show wpAny _ _ (do again (.builtin "list.__iadd__" ⟨[← newList [], .ref l], []⟩)) _ _ s
  refine wpAny_bind (wpAny_newList (wpAny_pure ⟨Code.quiet_builtin _ (by decide +kernel), codeAny_builtin entry_list_iadd' ?_⟩))
  show wpAny _ _ (Builtin.List.listExtendWith (.ref s.heap.objs.size) (.ref l) (.ref s.heap.objs.size)) _ _ { s with heap := s.heap.push (seqObj "list" #[] 0) }
  unfold Builtin.List.listExtendWith
  have ho' : (s.heap.push (seqObj "list" #[] 0)).get? l = some o := Heap.get?_push_of_some _ ho
  refine wpAny_bind (wpAny_typeOf (T := "tuple") ⟨o, ho', hc⟩ ?_)
  have ht : (Value.type "tuple" == Value.type "tuple") = true := by rfl
  rw [if_pos (by rw [ht]; simp)]
  refine wpAny_bind (listItems_at ho' hd ?_)
  refine wpAny_bind (listItems_at (xs := #[]) (n := 0) (Heap.get?_push_size _ rfl) rfl ?_)
  rw [if_neg (by simp)]
  refine wpAny_bind (listUpdate_at (xs := #[]) (n := 0) (Heap.get?_push_size _ rfl) rfl ?_ (Nat.zero_le _) (by show (#[] ++ vs.toArray).size ≤ sizeLine + 1; simp only [Array.size_append, List.size_toArray, List.length_nil]; omega))
  refine wpAny_pure ?_
  show wpAny (model prog w) A (do
      let o ← load s.heap.objs.size
      match o.data with
      | .seq xs _ => pure xs.toList
      | _ => unsupported "internal:collect") Q E { s with heap := (s.heap.push (seqObj "list" #[] 0)).update s.heap.objs.size (Obj.mapSeq (· ++ vs.toArray)) }
  refine wpAny_bind (wpAny_load (get?_update_seq (Heap.get?_push_size _ rfl) _) ?_)
  show wpAny _ _ (pure ((#[] : Array Value) ++ vs.toArray).toList) Q E _
  rw [show ((#[] : Array Value) ++ vs.toArray).toList = vs by simp]
  exact wpAny_pure h
theorem sorted_of_sortT {l : Addr} {vs : List Value} {kw : List (Str × Value)} {Q : Value → Shared → Prop} (hl : IsTup s.heap l vs.toArray) (hL : vs.length ≤ sizeLine) (ha1 : argsOk "sorted" ⟨[.ref l], kw⟩) (ha2 : ∀ x, argsOk "list.sort" ⟨[.ref x], kw⟩)
    (body : ∀ E' : Value → Shared → Prop, wpAny (model prog w) A.in1.in1 (Builtin.«list.sort» ⟨[.ref (s.heap.objs.size + 1)], kw⟩) (fun f s' => f = .done (.ret .none) ∧ Q (.ref (s.heap.objs.size + 1)) s') E' { s with heap := copyHeap s.heap vs }) :
    wpAny (model prog w) A (call (.builtin "sorted") [.ref l] kw) Q E s := by
  refine call_function_entry_kw kind_sorted plain_sorted entry_sorted ha1 ?_
  unfold Builtin.«sorted»
  refine wpAny_bind (m := checkCount "sorted" 1 1 _) (wpAny_pure ?_)
  refine wpAny_bind (collect_tup hl ?_ hL)
  refine wpAny_bind (wpAny_newList ?_ hL)
  have hsz : ((s.heap.push (seqObj "list" #[] 0)).update s.heap.objs.size (Obj.mapSeq (· ++ vs.toArray))).objs.size = s.heap.objs.size + 1 := by
    rw [Heap.size_update, size_push']
  show wpAny _ _ _ _ _ { s with heap := copyHeap s.heap vs }
  rw [hsz]
  refine wpAny_bind (wpAny_holding (wpAny_call_entry_kw slot_list_sort ⟨_, copyHeap_at s.heap vs, rfl⟩ entry_list_sort ?body (ha2 _)))
  case body =>
    show wpAny (model prog w) A.in1.in1 (Builtin.«list.sort» ⟨[.ref (s.heap.objs.size + 1)], kw⟩) _ _ _
    refine wpAny_mono (body _) (fun f s' hf => ?_) fun _ _ e => e
    obtain ⟨rfl, hq⟩ := hf
    exact ⟨_, rfl, wpAny_pure ⟨_, rfl, hq⟩⟩
variable {κ : PyProof.Rows.KeyKind}
theorem sorted_valsT {l : Addr} {vs : List Value} {Q : Value → Shared → Prop} (hl : IsTup s.heap l vs.toArray) (S : SortsAt prog w A.in1.in1 { s with heap := sortingHeap (copyHeap s.heap vs) (s.heap.objs.size + 1) vs } κ vs) (hL : vs.length ≤ sizeLine)
    (h : Q (.ref (s.heap.objs.size + 1)) { s with heap := sortedAll s.heap vs (sortVals κ false vs vs).toArray }) : wpAny (model prog w) A (call (.builtin "sorted") [.ref l]) Q E s :=
  sorted_of_sortT hl hL (args_sorted1 _) (fun _ => args_list_sort _) fun _ => list_sort_vals (s := { s with heap := copyHeap s.heap vs }) (copyHeap_at s.heap vs) S hL ⟨rfl, h⟩
theorem sorted_valsTR {l : Addr} {vs : List Value} {b : Bool} {Q : Value → Shared → Prop} (hl : IsTup s.heap l vs.toArray) (S : SortsAt prog w A.in1.in1 { s with heap := sortingHeap (copyHeap s.heap vs) (s.heap.objs.size + 1) vs } κ vs) (hL : vs.length ≤ sizeLine)
    (h : Q (.ref (s.heap.objs.size + 1)) { s with heap := sortedAll s.heap vs (sortVals κ b vs vs).toArray }) : wpAny (model prog w) A (call (.builtin "sorted") [.ref l] [(Str.ofString "reverse", .bool b)]) Q E s :=
  sorted_of_sortT hl hL (args_sorted_rev _ _) (fun _ => args_list_sort_rev _ _) fun _ => list_sort_rev_vals (s := { s with heap := copyHeap s.heap vs }) (copyHeap_at s.heap vs) S hL ⟨rfl, h⟩
variable {β : Type} {vs : List Value} {bs : List β} {enc : β → PyData} {R : Value → β → Prop}
theorem sorted_dataT {l : Addr} {Q : Value → Shared → Prop} (hl : IsTup s.heap l vs.toArray) (e : EachIs R vs bs) (er : EachIs (fun v b => ∃ as, Reads s.heap v (enc b) as) vs bs) (hal : AllAlike (bs.map enc)) (hk : Sortable (bs.map enc)) (hL : bs.length ≤ sizeLine)
    (hu : ∀ b, b ∈ bs → A.units + 2 + (enc b).depth < cLine) (h : ∀ out, out.length = bs.length → EachIs R out (bs.mergeSort (dataLe false enc)) → Q (.ref (s.heap.objs.size + 1)) { s with heap := sortedAll s.heap vs (List.toArray out) }) :
    wpAny (model prog w) A (call (.builtin "sorted") [.ref l]) Q E s := by
  have er' : EachIs (fun v b => ∃ as, Reads (sortingHeap (copyHeap s.heap vs) (s.heap.objs.size + 1) vs) v (enc b) as) vs bs := er.mono fun _ _ ⟨as, r⟩ => ⟨as, PyProof.Rows.Reads.keeps (fun _ _ => sorting_copy_old) r⟩
  exact sorted_valsT hl (SortsAt.data (s := { s with heap := sortingHeap (copyHeap s.heap vs) (s.heap.objs.size + 1) vs }) (each_map (R := fun v d => ∃ as, Reads (sortingHeap (copyHeap s.heap vs) (s.heap.objs.size + 1) vs) v d as) enc er') hal hk (bound_map hu)) (by rw [e.length]; exact hL)
    (h _ (by rw [sortVals_length false rfl]; exact e.length) (sortVals_data false e er' hal))
theorem sorted_dataTR {l : Addr} {b : Bool} {Q : Value → Shared → Prop} (hl : IsTup s.heap l vs.toArray) (e : EachIs R vs bs) (er : EachIs (fun v b => ∃ as, Reads s.heap v (enc b) as) vs bs) (hal : AllAlike (bs.map enc)) (hk : Sortable (bs.map enc)) (hL : bs.length ≤ sizeLine)
    (hu : ∀ b, b ∈ bs → A.units + 2 + (enc b).depth < cLine) (h : ∀ out, out.length = bs.length → EachIs R out (bs.mergeSort (dataLe b enc)) → Q (.ref (s.heap.objs.size + 1)) { s with heap := sortedAll s.heap vs (List.toArray out) }) :
    wpAny (model prog w) A (call (.builtin "sorted") [.ref l] [(Str.ofString "reverse", .bool b)]) Q E s := by
  have er' : EachIs (fun v b => ∃ as, Reads (sortingHeap (copyHeap s.heap vs) (s.heap.objs.size + 1) vs) v (enc b) as) vs bs := er.mono fun _ _ ⟨as, r⟩ => ⟨as, PyProof.Rows.Reads.keeps (fun _ _ => sorting_copy_old) r⟩
  exact sorted_valsTR hl (SortsAt.data (s := { s with heap := sortingHeap (copyHeap s.heap vs) (s.heap.objs.size + 1) vs }) (each_map (R := fun v d => ∃ as, Reads (sortingHeap (copyHeap s.heap vs) (s.heap.objs.size + 1) vs) v d as) enc er') hal hk (bound_map hu)) (by rw [e.length]; exact hL)
    (h _ (by rw [sortVals_length b rfl]; exact e.length) (sortVals_data b e er' hal))
end
end Ev
namespace Ev
open PySem PySem.Spec L2
open PySem.W (EachIs)
section
variable {X : Cx}
/-- items that stand for data -/
def ItemR (K : Frag) (F : Hp) (u : Value) (d : PV) : Prop := ∃ v, RelV v u ∧ Rp K F v d
theorem RpAll.each {K : Frag} {F : Hp} : ∀ {vs : List V} {us : List Value} {ds : List PV}, Vals vs us → RpAll K F vs ds → EachIs (ItemR K F) us ds
  | _, _, _, .nil, .nil => .nil
  | _, _, _, .cons r t, .cons h q => .cons ⟨_, r, h⟩ (RpAll.each t q)
theorem each_all {K : Frag} {F : Hp} : ∀ {us : List Value} {ds : List PV}, EachIs (ItemR K F) us ds → ∃ vs, Vals vs us ∧ RpAll K F vs ds
  | _, _, .nil => ⟨[], .nil, .nil⟩
  | _, _, .cons h q => by
    obtain ⟨v, r, p⟩ := h
    obtain ⟨vs, rs, ps⟩ := each_all q
    exact ⟨v :: vs, .cons r rs, .cons p ps⟩
theorem plains_mem : ∀ {ds : List PV}, plains ds = true → ∀ d ∈ ds, plain d = true
  | [], _, _, h => by cases h
  | x :: xs, p, d, h => by
    rw [plains, Bool.and_eq_true] at p
    rcases List.mem_cons.mp h with rfl | h
    · exact p.1
    · exact plains_mem p.2 d h
theorem each_mono {α β : Type} {R S : α → β → Prop} : ∀ {as : List α} {bs : List β}, EachIs R as bs → (∀ a b, b ∈ bs → R a b → S a b) → EachIs S as bs
  | _, _, .nil, _ => .nil
  | _, _, .cons h q, f => .cons (f _ _ List.mem_cons_self h) (each_mono q fun a b m => f a b (List.mem_cons_of_mem _ m))
theorem sortable_parts {ds : List PV} (h : sortable ds = true) : W.AllAlike ds ∧ W.Sortable ds ∧ (∀ d ∈ ds, d.depth ≤ 60) ∧ ∀ d ∈ ds, plain d = true := by
  unfold sortable at h
  simp only [Bool.and_eq_true, List.all_eq_true, decide_eq_true_eq, Bool.or_eq_true] at h
  obtain ⟨⟨⟨h1, h2⟩, h3⟩, h4⟩ := h
  refine ⟨fun d hd e he => h1 d hd e he, ?_, h3, fun d hd => plains_mem h4 d hd⟩
  rcases h2 with h2 | h2
  · left
    intro d hd
    have := h2 d hd
    split at this
    · exact ⟨_, _, rfl⟩
    · cases this
  · right
    intro d hd
    have := h2 d hd
    cases d with
    | none => cases this
    | tuple xs => cases this
    | _ => exact ⟨fun z => (nomatch z), fun xs z => (nomatch z)⟩
/-- sorted: a new list of the same things -/
theorem call_sorted (hu : X.A.units + 70 < cLine) {x : PV} {ds : List PV} (hs : seq? x = some ds) (hk : sortable ds = true) :
    CallR X (.builtin "sorted") fun xs H Q => ∃ F v, xs = [v] ∧ Sub F H ∧ RpT X.K F H v x ∧ Want X.K F H (.own (.list (ds.mergeSort (W.dataLe false id)))) Q := by
  intro pins s σ H xs us Q I r h
  obtain ⟨F, v, rfl, sub, hx, w⟩ := h
  obtain ⟨u, rfl, ru⟩ := vals1 r
  obtain ⟨hal, hso, hdep, hpl⟩ := sortable_parts hk
  -- the end, whatever was sorted
  have fin : ∀ (its : List Value) (vs : List V), Vals vs its → RpAll X.K F vs ds → vs.length ≤ sizeLine → EachIs (ItemR X.K F) its ds ∧ EachIs (fun v b => ∃ as, Reads s.heap v (id b) as) its ds ∧
      ∀ out : List Value, out.length = ds.length → EachIs (ItemR X.K F) out (ds.mergeSort (W.dataLe false id)) → EP X pins σ Q (.ref (s.heap.objs.size + 1)) { s with heap := PyProof.Rows.sortedAll s.heap its (List.toArray out) } := by
    intro its vs rv ra hz
    have e1 := RpAll.each rv ra
    refine ⟨e1, each_mono e1 fun a d hd ⟨v, r1, r2⟩ => ?_, fun out hl eo => ?_⟩
    · exact Dp.reads I d v a ((Rp.sub sub r2).dp (hpl d hd)) r1
    · obtain ⟨ws, r1, r2⟩ := each_all eo
      obtain ⟨ep, he'⟩ := PyProof.Rows.sortedAll_at s.heap its (List.toArray out)
      have hlen : ws.length ≤ sizeLine := by rw [r1.length, hl, ← ra.length]; exact hz
      have hn : H (s.heap.objs.size + 1) = none := I.hok.fresh (Nat.le_succ _)
      exact ⟨.ref _, upd H (s.heap.objs.size + 1) (.lst ws), I.laid (t' := s.toks) (fun _ _ => PyProof.Rows.sortedAll_old) (Nat.le_succ _) ⟨hlen, out, ep, r1, he'⟩, rfl, w.lst sub r2 _ hn⟩
  have hdu : ∀ b, b ∈ ds → X.A.units + 2 + (id b : PV).depth < cLine := fun b hb => by have := hdep b hb; simp only [id]; omega
  cases x with
  | list es =>
    cases hs
    obtain ⟨a, vs, rfl, ha, ra⟩ := hx.lst
    cases ru
    obtain ⟨hz, its, n, rv, hl, e⟩ := lstR I ha
    obtain ⟨f1, f2, f3⟩ := fin its vs rv ra hz
    exact PySem.W.sorted_data (enc := id) ⟨_, e, rfl, n, rfl⟩ f1 f2 (by simpa using hal) (by simpa using hso) (by rw [← ra.length]; exact hz) hdu f3
  | tuple es =>
    cases hs
    obtain ⟨a, vs, rfl, ha, ra⟩ := hx.tup
    cases ru
    obtain ⟨its, rv, ht, hz⟩ := I.tuple (SqT.sub sub ha)
    obtain ⟨f1, f2, f3⟩ := fin its vs rv ra hz
    exact sorted_dataT (enc := id) ht f1 f2 (by simpa using hal) (by simpa using hso) (by rw [← ra.length]; exact hz) hdu f3
  | _ => cases hs
/-- sorted(.., reverse=b) -/
theorem call_sortedR {b : Bool} (hu : X.A.units + 70 < cLine) {x : PV} {ds : List PV} (hs : seq? x = some ds) (hk : sortable ds = true) :
    CallRK X (.builtin "sorted") [Str.ofString "reverse"] fun xs zs H Q => ∃ F v, xs = [v] ∧ zs = [.bl b] ∧ Sub F H ∧ RpT X.K F H v x ∧ Want X.K F H (.own (.list (ds.mergeSort (W.dataLe b id)))) Q := by
  intro pins s σ H xs zs us ws Q I r rz h
  obtain ⟨F, v, rfl, rfl, sub, hx, w⟩ := h
  obtain ⟨w1, rfl, e0⟩ := vals1 rz
  obtain rfl : w1 = Value.bool b := e0
  obtain ⟨u, rfl, ru⟩ := vals1 r
  obtain ⟨hal, hso, hdep, hpl⟩ := sortable_parts hk
  -- the end, whatever was sorted
  have fin : ∀ (its : List Value) (vs : List V), Vals vs its → RpAll X.K F vs ds → vs.length ≤ sizeLine → EachIs (ItemR X.K F) its ds ∧ EachIs (fun v b => ∃ as, Reads s.heap v (id b) as) its ds ∧
      ∀ out : List Value, out.length = ds.length → EachIs (ItemR X.K F) out (ds.mergeSort (W.dataLe b id)) → EP X pins σ Q (.ref (s.heap.objs.size + 1)) { s with heap := PyProof.Rows.sortedAll s.heap its (List.toArray out) } := by
    intro its vs rv ra hz
    have e1 := RpAll.each rv ra
    refine ⟨e1, each_mono e1 fun a d hd ⟨v, r1, r2⟩ => ?_, fun out hl eo => ?_⟩
    · exact Dp.reads I d v a ((Rp.sub sub r2).dp (hpl d hd)) r1
    · obtain ⟨ws, r1, r2⟩ := each_all eo
      obtain ⟨ep, he'⟩ := PyProof.Rows.sortedAll_at s.heap its (List.toArray out)
      have hlen : ws.length ≤ sizeLine := by rw [r1.length, hl, ← ra.length]; exact hz
      have hn : H (s.heap.objs.size + 1) = none := I.hok.fresh (Nat.le_succ _)
      exact ⟨.ref _, upd H (s.heap.objs.size + 1) (.lst ws), I.laid (t' := s.toks) (fun _ _ => PyProof.Rows.sortedAll_old) (Nat.le_succ _) ⟨hlen, out, ep, r1, he'⟩, rfl, w.lst sub r2 _ hn⟩
  have hdu : ∀ c, c ∈ ds → X.A.units + 2 + (id c : PV).depth < cLine := fun c hb => by have := hdep c hb; simp only [id]; omega
  cases x with
  | list es =>
    cases hs
    obtain ⟨a, vs, rfl, ha, ra⟩ := hx.lst
    cases ru
    obtain ⟨hz, its, n, rv, hl, e⟩ := lstR I ha
    obtain ⟨f1, f2, f3⟩ := fin its vs rv ra hz
    exact PySem.W.sorted_rev_data (enc := id) ⟨_, e, rfl, n, rfl⟩ f1 f2 (by simpa using hal) (by simpa using hso) (by rw [← ra.length]; exact hz) hdu f3
  | tuple es =>
    cases hs
    obtain ⟨a, vs, rfl, ha, ra⟩ := hx.tup
    cases ru
    obtain ⟨its, rv, ht, hz⟩ := I.tuple (SqT.sub sub ha)
    obtain ⟨f1, f2, f3⟩ := fin its vs rv ra hz
    exact sorted_dataTR (enc := id) ht f1 f2 (by simpa using hal) (by simpa using hso) (by rw [← ra.length]; exact hz) hdu f3
  | _ => cases hs
end
end Ev

/-! EvO: sorted(.., key=f): f's calls may do what they like, as long as the sort's own lists stay. -/
namespace Ev
open PySem PySem.W PySem.Calls PyProof.Rows
section
variable {prog : Program} {w : World} {A : Around} {E : Value → Shared → Prop} {s : Shared} {a kS : Addr} {b : Bool} {vs : List Value} {e1 : Nat} {P : PySem.Fin → Shared → Prop} {kz : List PyData}
/-- all of h but a and c stands in h' -/
def Keeps2 (a c : Addr) (h h' : Heap) : Prop := ∀ b o, b ≠ a → b ≠ c → h.get? b = some o → h'.get? b = some o
theorem keyJ_rest {f : Value} (J : Nat → List Value → Shared → Prop) (nk : s.heap.get? kS = some (seqObj "list" #[] 0)) (na : s.heap.get? a = some (seqObj "list" #[] e1)) (hka : kS ≠ a)
    (hlen : kz.length = vs.length) (hZ : vs.length ≤ sizeLine) (hal : AllAlike kz) (hsk : Sortable kz) (hu : ∀ d, d ∈ kz → A.units + d.depth < cLine) (j0 : J 0 [] s)
    (jup : ∀ i ks (s' : Shared) kA e c, J i ks s' → s'.heap.get? kS = some (seqObj "list" kA e) → J i ks { s' with heap := s'.heap.update kS (Obj.mapSeq c) })
    (turn : ∀ i v (s' : Shared) ks kA e, vs[i]? = some v → J i ks s' → s'.heap.get? kS = some (seqObj "list" kA e) → s'.heap.get? a = some (seqObj "list" #[] e1) →
      wpAny (model prog w) A (call f [v]) (fun u s'' => s''.heap.get? kS = some (seqObj "list" kA e) ∧ s''.heap.get? a = some (seqObj "list" #[] e1) ∧ J (i + 1) (ks ++ [u]) s'') (fun _ _ => False) s')
    (read : ∀ ks (s' : Shared), J vs.length ks s' → EachIs (fun v k => ∃ as, Reads s'.heap v k as) ks kz)
    (h : ∀ (s1 : Shared) ks h' tk out c, J vs.length ks s1 → Keeps2 a kS s1.heap h' → h'.get? a = some (seqObj "list" (List.toArray out) c) → KeyedOut b kz vs out → P (.done (.ret .none)) { s1 with heap := h', toks := tk }) :
    wpAny (model prog w) A (ksk_rest a f b vs.toArray e1 (.ref kS)) P E s := by
  unfold ksk_rest
  refine wpAny_bind (wpAny_rule ?_)
  first
    | rw [List.forIn_toArray]
    | (rw [← Array.forIn_toList]; simp only [List.toList_toArray])
    | rw [← Array.forIn_toList]
  refine wpAny_bind (ksk_fold (fun i s' => ∃ kA e, s'.heap.get? kS = some (seqObj "list" kA e) ∧ s'.heap.get? a = some (seqObj "list" #[] e1) ∧ kA.toList.length = i ∧ J i kA.toList s') vs 0 s
    ⟨#[], 0, nk, na, rfl, j0⟩ ?step ?done)
  case step =>
    rintro j x s' hx ⟨kA, e, nk', na', hsz, hj⟩
    simp only [Nat.zero_add] at hsz hj ⊢
    have hjl : j < vs.length := (List.getElem?_eq_some_iff.mp hx).1
    have hz : kA.size ≤ vs.length := by
      rw [Array.length_toList] at hsz
      omega
    refine wpAny_bind (wpAny_attempt (wpAny_mono (turn j x s' kA.toList kA e hx hj nk' na') (fun v s'' he => ?_) fun _ _ hF => hF.elim))
    obtain ⟨nk2, na2, hj2⟩ := he
    try dsimp only
    have s1 := Heap.SameBut.update s''.heap kS (Obj.mapSeq (·.push v))
    obtain ⟨c2, hc2⟩ : ∃ c2, (s''.heap.update kS (Obj.mapSeq (·.push v))).get? kS = some (seqObj "list" (kA.push v) c2) := ⟨_, get?_update_seq nk2 (·.push v)⟩
    have ea : (kA.push v).toList = kA.toList ++ [v] := by simp
    refine wpAny_bind (listUpdate_at nk2 rfl ?_ (Nat.le_trans hz hZ) (Nat.le_trans (Nat.le_of_eq (Array.size_push ..)) (Nat.succ_le_succ (Nat.le_trans hz hZ))))
    refine wpAny_pure ⟨rfl, kA.push v, c2, hc2, (s1.2 a hka.symm).trans na2, ?_, ?_⟩
    · rw [ea, List.length_append, hsz]; rfl
    · rw [ea]; exact jup _ _ s'' kA e _ hj2 nk2
  case done =>
    rintro s' ⟨kA, e, nk', na', hsz, hj⟩
    simp only [Nat.zero_add] at hsz hj
    have hk' := read _ s' hj
    have hsz' : kA.size = vs.length := by rw [← hsz, Array.length_toList]
    try dsimp only
    refine wpAny_bind (listItems_at nk' rfl ?_)
    have g1 : KeepsBut a (hideAll s'.heap [kS]) s'.heap := fun b o _ q => of_hideAll _ q
    have g2 : (hideAll s'.heap [kS]).get? kS = none := hideAll_none _ (by simp)
    refine keyH_end (κ := dataKind s'.heap kz) (h₁ := hideAll s'.heap [kS]) g1 g2 nk' na' hka (SortsAt.data (s := s') hk' hal hsk hu) hsz' hZ fun h3 tk3 c k3 n3 => h s' kA.toList h3 tk3 _ c hj (fun b o h1 h2 q => k3 b o h1 (hideAll_get _ q (by simpa using h2))) n3 ⟨s'.heap, kA.toList, hal, rfl, hk'⟩
theorem keyJ_tree {f : Value} {n : Nat} (J : Nat → List Value → Shared → Prop) (ho : s.heap.get? a = some (seqObj "list" vs.toArray n)) (hlen : kz.length = vs.length) (hZ : vs.length ≤ sizeLine) (hal : AllAlike kz) (hsk : Sortable kz) (hu : ∀ d, d ∈ kz → A.units + d.depth < cLine)
    (hkS : s.heap.objs.size + 1 = kS)
    (j0 : ∀ h' : Heap, KeepsBut a s.heap h' → J 0 [] { s with heap := h' })
    (jup : ∀ i ks (s' : Shared) kA e c, J i ks s' → s'.heap.get? kS = some (seqObj "list" kA e) → J i ks { s' with heap := s'.heap.update kS (Obj.mapSeq c) })
    (turn : ∀ i v (s' : Shared) ks kA e e1, vs[i]? = some v → J i ks s' → s'.heap.get? kS = some (seqObj "list" kA e) → s'.heap.get? a = some (seqObj "list" #[] e1) →
      wpAny (model prog w) A (call f [v]) (fun u s'' => s''.heap.get? kS = some (seqObj "list" kA e) ∧ s''.heap.get? a = some (seqObj "list" #[] e1) ∧ J (i + 1) (ks ++ [u]) s'') (fun _ _ => False) s')
    (read : ∀ ks (s' : Shared), J vs.length ks s' → EachIs (fun v k => ∃ as, Reads s'.heap v k as) ks kz)
    (h : ∀ (s1 : Shared) ks h' tk out c, J vs.length ks s1 → Keeps2 a kS s1.heap h' → h'.get? a = some (seqObj "list" (List.toArray out) c) → KeyedOut b kz vs out → P (.done (.ret .none)) { s1 with heap := h', toks := tk }) :
    wpAny (model prog w) A (ksk_tree a f b) P E s := by
  have ha : a < s.heap.objs.size := Heap.lt_size ho
  obtain ⟨e1, ho1⟩ : ∃ e1, (s.heap.update a (Obj.mapSeq fun _ => (#[] : Array Value))).get? a = some (seqObj "list" #[] e1) := ⟨_, get?_update_seq ho fun _ => #[]⟩
  have hk : ((s.heap.update a (Obj.mapSeq fun _ => (#[] : Array Value))).push (seqObj "tuple" vs.toArray 0)).objs.size = kS := by rw [size_push', Heap.size_update]; exact hkS
  unfold ksk_tree
  refine wpAny_bind (listItems_at ho rfl ?_)
  refine wpAny_bind (listUpdate_at ho rfl ?_ (by rw [List.size_toArray]; exact hZ) (Nat.zero_le _))
  refine wpAny_bind (seqEpoch_at ho1 rfl ?_)
  refine wpAny_bind (wpAny_newTuple ?_ (by show vs.length ≤ _; exact hZ))
  refine wpAny_bind (wpAny_newList ?_ (Nat.zero_le _))
  refine wpAny_holding ?_
  try dsimp only
  rw [hk]
  have kp : KeepsBut a s.heap (((s.heap.update a (Obj.mapSeq fun _ => (#[] : Array Value))).push (seqObj "tuple" vs.toArray 0)).push (seqObj "list" #[] 0)) := fun b o hb q => sortingHeap_old hb q
  refine keyJ_rest J (s := { s with heap := ((s.heap.update a (Obj.mapSeq fun _ => (#[] : Array Value))).push (seqObj "tuple" vs.toArray 0)).push (seqObj "list" #[] 0) }) (kS := kS)
    (by rw [← hk]; exact Heap.get?_push_size _ rfl) (Heap.get?_push_of_some _ (Heap.get?_push_of_some _ ho1)) (by rw [← hkS]; exact Nat.ne_of_gt (Nat.lt_succ_of_lt ha)) hlen hZ hal hsk hu (j0 _ kp) jup (fun i v s' ks kA e => turn i v s' ks kA e e1) read h
end
end Ev
namespace Ev
open PySem PySem.Spec L2
open PySem.W (EachIs)
theorem each_at {α β : Type} {R : α → β → Prop} : ∀ {us : List α} {ds : List β} {j : Nat} {u : α}, EachIs R us ds → us[j]? = some u → ∃ d, ds[j]? = some d ∧ R u d
  | _, _, _, _, .nil, h => by simp at h
  | _, _, 0, _, .cons a t, h => by simp at h; subst h; exact ⟨_, rfl, a⟩
  | _, _, j + 1, _, .cons a t, h => by
    obtain ⟨d, h1, h2⟩ := each_at (j := j) t (by simpa using h)
    exact ⟨d, by simpa using h1, h2⟩

/-- two keys are compared -/
theorem cmp_keys {prog : Program} {w : World} {A : Around} {s : Shared} {us : List Value} {ks : List PV} {i j : Nat} {ki kj : Value} {Q : Value → Shared → Prop} {E : Value → Shared → Prop} (mx : Bool) (hso : sortable ks = true) (er : EachIs (fun v b => ∃ as, Reads s.heap v b as) us ks) (hu : A.units + 60 < cLine)
    (hi : us[i]? = some ki) (hj : us[j]? = some kj) (hq : Q (.bool (btK mx ks i j)) s) : wpAny (model prog w) A (richCompare (if mx then .Gt else .Lt) ki kj) Q E s := by
  obtain ⟨hal, hsrt, hdep, hpl⟩ := sortable_parts hso
  obtain ⟨da, h1, as, ra⟩ := each_at er hi
  obtain ⟨db, h2, bs, rb⟩ := each_at er hj
  have m1 := List.mem_of_getElem? h1
  have m2 := List.mem_of_getElem? h2
  have ga : ks.getD i .none = da := by rw [List.getD_eq_getElem?_getD, h1]; rfl
  have gb : ks.getD j .none = db := by rw [List.getD_eq_getElem?_getD, h2]; rfl
  have nn : da ≠ .none := by
    rcases hsrt with h | h
    · obtain ⟨x, r, e⟩ := h da m1
      intro z; rw [z] at e; cases e
    · exact (h da m1).1
  have hd : A.units + min da.depth db.depth < cLine := by
    have := hdep da m1
    have := Nat.min_le_left da.depth db.depth
    omega
  unfold btK at hq
  rw [ga, gb] at hq
  cases mx with
  | true => exact PySem.W.rcGt_alike da db A s ki kj as bs ra rb (hal da m1 db m2) nn hd prog w E Q hq
  | false => exact PySem.W.rcLt_alike da db A s ki kj as bs ra rb (hal da m1 db m2) nn hd prog w E Q hq
end Ev

/-! Ev6: built-in functions, subscripts, truth, isinstance, methods. -/
namespace Ev
open PySem PySem.Spec L2
/-- several things, each by itself in H, what they hold in F -/
inductive RTs (K : Frag) (F H : Hp) : List V → List PV → Prop
  | nil : RTs K F H [] []
  | cons {v : V} {vs : List V} {d : PV} {ds : List PV} : RpT K F H v d → RTs K F H vs ds → RTs K F H (v :: vs) (d :: ds)
theorem RTs.one {K : Frag} {F H : Hp} {vs : List V} {d : PV} (h : RTs K F H vs [d]) : ∃ v, vs = [v] ∧ RpT K F H v d := by
  cases h with
  | cons a b => cases b; exact ⟨_, rfl, a⟩
theorem RTs.two {K : Frag} {F H : Hp} {vs : List V} {d e : PV} (h : RTs K F H vs [d, e]) : ∃ v w, vs = [v, w] ∧ RpT K F H v d ∧ RpT K F H w e := by
  cases h with
  | cons a b =>
    obtain ⟨w, rfl, q⟩ := b.one
    exact ⟨_, _, rfl, a, q⟩
theorem bools_some : ∀ {xs : List PV} {ns : List Bool}, bools? xs = some ns → xs = ns.map .bool
  | [], ns, h => by cases h; rfl
  | .bool i :: r, ns, h => by
    unfold bools? at h
    cases q : bools? r with
    | none => rw [q] at h; cases h
    | some ms => rw [q] at h; cases h; rw [List.map_cons, ← bools_some q]
  | .none :: _, _, h => by cases h
  | .int _ :: _, _, h => by cases h
  | .str _ :: _, _, h => by cases h
  | .list _ :: _, _, h => by cases h
  | .tuple _ :: _, _, h => by cases h
  | .dict _ :: _, _, h => by cases h
theorem RpAll.bools {K : Frag} {F : Hp} : ∀ {vs : List V} {ns : List Bool}, RpAll K F vs (ns.map .bool) → vs = ns.map V.bl
  | _, [], h => by cases h; rfl
  | _, n :: ns, h => by
    cases h with
    | cons a b => cases a; rw [List.map_cons, RpAll.bools b]
theorem RpAll.ofInts {K : Frag} {F : Hp} : ∀ (ns : List Int), RpAll K F (ns.map V.int) (ns.map .int)
  | [] => .nil
  | n :: ns => .cons (.int n) (RpAll.ofInts ns)
theorem RpKv.length {K : Frag} {H : Hp} : ∀ {vs : List (Key × V)} {ds : List (PV × PV)}, RpKv K H vs ds → vs.length = ds.length
  | _, _, .nil => rfl
  | _, _, .int _ t => by simp [RpKv.length t]
  | _, _, .str _ t => by simp [RpKv.length t]
theorem RpKv.not {K : Frag} {H : Hp} {kvs : List (Key × V)} {d : PV} {ds : List (PV × PV)} (h : RpKv K H kvs ((.none, d) :: ds)) : False := by cases h
def bltVal : Blt → Value
  | .len => .builtin "len" | .abs => .builtin "abs" | .min2 => .builtin "min" | .max2 => .builtin "max" | .mn => .builtin "min" | .mx => .builtin "max"
  | .sum => .builtin "sum" | .all => .builtin "all" | .any => .builtin "any" | .sorted => .builtin "sorted" | .int => .type "int" | .list => .type "list" | .tuple => .type "tuple"
  | .repr => .builtin "repr"
section
variable {X : Cx}
/-- a built-in called with data -/
def CallS (X : Cx) (f : Value) (us : List PV) (r : Rv) : Prop := CallR X f fun xs H Q => ∃ F, Sub F H ∧ RTs X.K F H xs us ∧ Want X.K F H r Q
theorem ints_alike (ns : List Int) : PySem.W.AlikeAll (ns.map PyData.int) := by
  refine ⟨fun x hx y hy => ?_, fun x hx => ?_⟩
  · obtain ⟨i, _, rfl⟩ := List.mem_map.mp hx
    obtain ⟨j, _, rfl⟩ := List.mem_map.mp hy
    rfl
  · obtain ⟨i, _, rfl⟩ := List.mem_map.mp hx
    intro z; cases z
theorem ints_depth0 : ∀ ns : List Int, PyData.depthAll (ns.map PyData.int) = 0
  | [] => by simp [PyData.depthAll]
  | n :: ns => by simp [PyData.depthAll, PyData.depth, ints_depth0 ns]
theorem reads_int_inv {h : Heap} {v : Value} {n : Int} {bs : List Addr} (r : Reads h v (.int n) bs) : ∃ t, v = .int n t := by
  cases r with
  | int => exact ⟨_, rfl⟩
theorem readsAll_ints {h : Heap} : ∀ {its : List Value} {ns : List Int}, PyProof.Rows.IntsAre its ns → ReadsAll h its (ns.map .int) []
  | _, _, .nil => .nil
  | _, _, .cons _ _ b => .cons (as := []) (bs := []) (.int _ _) (readsAll_ints b)
theorem foldl_max? (n : Int) (ns : List Int) : (n :: ns).max? = some (ns.foldl max n) := rfl
theorem foldl_min? (n : Int) (ns : List Int) : (n :: ns).min? = some (ns.foldl min n) := rfl
/-- max, min of a tuple of ints -/
theorem call_minmaxT (mx : Bool) (hc : X.calm = true) (hu : X.A.units + 70 < cLine) : CallR X (.builtin (if mx then "max" else "min")) fun xs H Q =>
    ∃ a n ns, xs = [.ref a] ∧ SqT X.K H a ((n :: ns).map V.int) ∧ Q (.int (if mx then ns.foldl max n else ns.foldl min n)) H := by
  intro pins s σ H xs us Q I r h
  obtain ⟨a, n, ns, rfl, hs, q⟩ := h
  obtain ⟨its, rv, ht, _⟩ := I.tuple hs
  obtain rfl := Vals.ref1 r
  have hi : PyProof.Rows.IntsAre its (n :: ns) := Vals.ints rv
  have f1 : ReadsAll s.heap its.toArray.toList (.int n :: ns.map .int) [] := readsAll_ints hi
  have hh : X.A.handled = none := I.ok.hd hc
  have hA : PySem.W.AlikeAll (.int n :: ns.map PyData.int) := ints_alike (n :: ns)
  have hdp : X.A.units + 1 + PyData.depthAll (.int n :: ns.map PyData.int) < cLine := by
    have := ints_depth0 (n :: ns)
    rw [List.map_cons] at this
    rw [this]; omega
  cases mx with
  | true =>
    refine PySem.W.max_tuple_data hh ht f1 hA hdp fun i v h' tk bs hv rd hk => ?_
    rw [PySem.W.maxD_ints] at rd
    obtain ⟨t, rfl⟩ := reads_int_inv rd
    exact ⟨.int _, H, I.kept (t' := tk) hk, ⟨t, rfl⟩, q⟩
  | false =>
    refine PySem.W.min_tuple_data hh ht f1 hA hdp fun i v h' tk bs hv rd hk => ?_
    rw [PySem.W.minD_ints] at rd
    obtain ⟨t, rfl⟩ := reads_int_inv rd
    exact ⟨.int _, H, I.kept (t' := tk) hk, ⟨t, rfl⟩, q⟩
theorem call_sumT (hc : X.calm = true) : CallR X (.builtin "sum") fun xs H Q => ∃ (a : Addr) (ns : List Int), xs = [.ref a] ∧ SqT X.K H a (ns.map V.int) ∧ Q (.int ns.sum) H := by
  intro pins s σ H xs us Q I r h
  obtain ⟨a, ns, rfl, hs, q⟩ := h
  obtain ⟨its, rv, ht, _⟩ := I.tuple hs
  obtain rfl := Vals.ref1 r
  have hi : PyProof.Rows.IntsAre its ns := Vals.ints rv
  obtain ⟨xs, hx⟩ := hi.allInts.items
  have hn : numsOf its.toArray.toList = ns := by rw [show its.toArray.toList = its from rfl, hi.numsOf]
  rw [hx] at ht hn
  rw [nums_intItems] at hn
  refine PySem.W.ktm_sumG (I.ok.hd hc) ht fun h' tk t' hk => ?_
  rw [preSum_eq, List.take_of_length_le (by simp), hn]
  exact ⟨.int _, H, I.kept (t' := tk) hk, ⟨t', rfl⟩, q⟩
/-- max, min of a list of things that compare -/
theorem call_best (mx : Bool) (hc : X.calm = true) (hu : X.A.units + 70 < cLine) {xs : List PV} {d : PV} (h : bestOf mx xs xs = some d) : CallS X (.builtin (if mx then "max" else "min")) [.list xs] (.frz d) := by
  intro pins s σ H ys us Q I r ⟨F, sub, hx, w⟩
  obtain ⟨v, rfl, hv⟩ := hx.one
  obtain ⟨a, vs, rfl, ha, ra⟩ := hv.lst
  obtain rfl := Vals.ref1 r
  obtain ⟨hz, its, n, rv, hl, e0⟩ := lstR I ha
  unfold bestOf at h
  split at h
  case isFalse => cases h
  rename_i hcond
  simp only [Bool.and_eq_true, decide_eq_true_eq] at hcond
  have hso := hcond.1.1
  obtain ⟨hal, hsrt, hdep, hpl⟩ := sortable_parts hso
  have e1 := RpAll.each rv ra
  have e2 : PySem.W.EachIs (fun v b => ∃ as, Reads s.heap v b as) its xs := each_mono e1 fun a d hd ⟨v, r1, r2⟩ => Dp.reads I d v a ((Rp.sub sub r2).dp (hpl d hd)) r1
  have hL : s.heap.IsList a its.toArray := ⟨_, e0, rfl, n, rfl⟩
  have hi : argBest (btK mx xs) (xs.length - 1) < xs.length := (List.getElem?_eq_some_iff.mp h).1
  have np : 0 < its.toArray.size := by rw [List.size_toArray, e1.length]; omega
  have esz : its.toArray.size = xs.length := by rw [List.size_toArray, e1.length]
  have hh : X.A.handled = none := I.ok.hd hc
  have cmp : ∀ (op : CmpOp), op = (if mx then .Gt else .Lt) → PySem.CmpIn X.prog X.w X.A.in1 op s.heap (fun i v => its.toArray[i]? = some v) (btK mx xs) := fun op ho i j vi vj s' Q E hk h1 h2 hq => by
    subst ho
    exact cmp_keys mx hso (s := s') (each_mono e2 fun v d _ ⟨as, r⟩ => ⟨as, PyProof.Rows.Reads.keeps hk r⟩) (by show X.A.units + 1 + 60 < cLine; omega) (by simpa using h1) (by simpa using h2) hq
  have fin : ∀ (s₂ s' : Shared) (v : Value), s₂ = { s with heap := s.heap.push { cls := .type "list_iterator", data := .fields #[.ref a, .int 0 0] } } → its.toArray[argBest (btK mx xs) (its.toArray.size - 1)]? = some v → Moved [s.heap.objs.size] (fun a b => b = a) s₂ s' → EP X pins σ Q v s' := fun s₂ s' v e hP m => by
    obtain ⟨h', tk, rfl, hk'⟩ := PySem.W.moved_old e rfl m
    rw [esz] at hP
    obtain ⟨d', h1, v', h2, h3⟩ := each_at e1 (by simpa using hP)
    rw [h] at h1
    cases h1
    exact ⟨v', H, I.kept (t' := tk) hk', h2, w.frz sub h3⟩
  cases mx with
  | true =>
    refine PySem.call_max_walkH (PySem.W.iter_listW (A := X.A.in1) hh hL fun s₂ e W st hfp hw hk => ?_)
    exact ⟨_, _, _, _, _, _, _, s.heap, _, rfl, W, st, hfp, np, hw, hk, cmp .Gt rfl, fun v s' hP m => fin s₂ s' v e hP m⟩
  | false =>
    refine PySem.call_min_walkH (PySem.W.iter_listW (A := X.A.in1) hh hL fun s₂ e W st hfp hw hk => ?_)
    exact ⟨_, _, _, _, _, _, _, s.heap, _, rfl, W, st, hfp, np, hw, hk, cmp .Lt rfl, fun v s' hP m => fin s₂ s' v e hP m⟩
theorem blt_ok {b : Blt} {us : List PV} {r : Rv} (hc : X.calm = true) (hu : X.A.units + 70 < cLine) (h : bltOp b us = some r) : CallS X (bltVal b) us r := by
  unfold bltOp at h
  split at h
  · cases h
    refine CallR.imp call_len_seq fun xs H Q ⟨F, s, hx, w⟩ => ?_
    obtain ⟨v, rfl, hv⟩ := hx.one
    obtain ⟨a, vs, rfl, ha, ra⟩ := hv.lst
    exact ⟨a, vs, rfl, .inl (.inl ha), by rw [ra.length]; exact w.frz s (.int _)⟩
  · cases h
    refine CallR.imp call_len_seq fun xs H Q ⟨F, s, hx, w⟩ => ?_
    obtain ⟨v, rfl, hv⟩ := hx.one
    obtain ⟨a, vs, rfl, ha, ra⟩ := hv.tup
    exact ⟨a, vs, rfl, .inr (SqT.sub s ha), by rw [ra.length]; exact w.frz s (.int _)⟩
  · cases h
    refine CallR.imp call_len_seq fun xs H Q ⟨F, s, hx, w⟩ => ?_
    obtain ⟨v, rfl, hv⟩ := hx.one
    rcases hv with ⟨a, kvs, rfl, _, hk⟩ | ⟨a, vs, es, rfl, e, ha, ra⟩
    · exact hk.not.elim
    · cases e
      exact ⟨a, vs, rfl, .inl ha, by rw [ra.length]; exact w.frz s (.int _)⟩
  · rename_i kvs hn
    cases h
    refine CallR.imp call_lenD fun xs H Q ⟨F, s, hx, w⟩ => ?_
    obtain ⟨v, rfl, hv⟩ := hx.one
    rcases hv with ⟨a, kvs, rfl, ha, hk⟩ | ⟨a, vs, es, rfl, e, ha, ra⟩
    · exact ⟨a, kvs, rfl, ha, by rw [hk.length]; exact w.frz s (.int _)⟩
    · exact (hn _ (by rw [e])).elim
  · cases h
    refine CallR.imp call_abs fun xs H Q ⟨F, s, hx, w⟩ => ?_
    obtain ⟨v, rfl, hv⟩ := hx.one
    rw [hv.int]
    exact ⟨_, rfl, w.frz s (.int _)⟩
  · cases h
    refine CallR.imp (call_min2 hc) fun xs H Q ⟨F, s, hx, w⟩ => ?_
    obtain ⟨v, v2, rfl, hv, hv2⟩ := hx.two
    rw [hv.int, hv2.int]
    exact ⟨_, _, rfl, w.frz s (.int _)⟩
  · cases h
    refine CallR.imp (call_max2 hc) fun xs H Q ⟨F, s, hx, w⟩ => ?_
    obtain ⟨v, v2, rfl, hv, hv2⟩ := hx.two
    rw [hv.int, hv2.int]
    exact ⟨_, _, rfl, w.frz s (.int _)⟩
  · rename_i xs
    cases q : ints? xs with
    | none =>
      simp only [q] at h
      obtain ⟨d, h1, rfl⟩ := Option.map_eq_some_iff.mp h
      exact call_best false hc hu h1
    | some ns =>
      simp only [q] at h
      cases q2 : ns.min? with
      | none => simp [q2] at h
      | some m =>
        simp only [q2, Option.map_some, Option.some.injEq] at h
        subst h
        rw [ints_some q]
        obtain ⟨m1, m2⟩ := List.min?_eq_some_iff.mp q2
        refine CallR.imp (cr_min hc) fun xs H Q ⟨F, s, hx, w⟩ => ?_
        obtain ⟨v, rfl, hv⟩ := hx.one
        obtain ⟨a, vs, rfl, ha, ra⟩ := hv.lst
        rw [ra.ints] at ha
        refine ⟨a, ns, rfl, .inl ha, List.length_pos_of_mem m1, fun m' h1 h2 => ?_⟩
        rw [show m' = m from Int.le_antisymm (h2 m m1) (m2 m' h1)]
        exact w.frz s (.int _)
  · rename_i xs
    cases q : ints? xs with
    | none =>
      simp only [q] at h
      obtain ⟨d, h1, rfl⟩ := Option.map_eq_some_iff.mp h
      exact call_best true hc hu h1
    | some ns =>
      simp only [q] at h
      cases q2 : ns.max? with
      | none => simp [q2] at h
      | some m =>
        simp only [q2, Option.map_some, Option.some.injEq] at h
        subst h
        rw [ints_some q]
        obtain ⟨m1, m2⟩ := List.max?_eq_some_iff.mp q2
        refine CallR.imp (cr_max hc) fun xs H Q ⟨F, s, hx, w⟩ => ?_
        obtain ⟨v, rfl, hv⟩ := hx.one
        obtain ⟨a, vs, rfl, ha, ra⟩ := hv.lst
        rw [ra.ints] at ha
        refine ⟨a, ns, rfl, .inl ha, List.length_pos_of_mem m1, fun m' h1 h2 => ?_⟩
        rw [show m' = m from Int.le_antisymm (m2 m' h1) (h2 m m1)]
        exact w.frz s (.int _)
  · rename_i xs
    cases q : ints? xs with
    | none => rw [q] at h; cases h
    | some ns =>
      rw [q] at h
      cases h
      rw [ints_some q]
      refine CallR.imp (cr_sum hc) fun xs H Q ⟨F, s, hx, w⟩ => ?_
      obtain ⟨v, rfl, hv⟩ := hx.one
      obtain ⟨a, vs, rfl, ha, ra⟩ := hv.lst
      rw [ra.ints] at ha
      exact ⟨a, ns, rfl, .inl ha, w.frz s (.int _)⟩
  · rename_i xs
    cases q : ints? xs with
    | none => rw [q] at h; cases h
    | some ns =>
      rw [q] at h
      cases ns with
      | nil => cases h
      | cons n ns =>
        simp only [Option.bind_some, foldl_min?, Option.map_some, Option.some.injEq] at h
        subst h
        rw [ints_some q]
        refine CallR.imp (call_minmaxT false hc hu) fun xs H Q ⟨F, s, hx, w⟩ => ?_
        obtain ⟨v, rfl, hv⟩ := hx.one
        obtain ⟨a, vs, rfl, ha, ra⟩ := hv.tup
        rw [ra.ints] at ha
        exact ⟨a, n, ns, rfl, SqT.sub s ha, w.frz s (.int _)⟩
  · rename_i xs
    cases q : ints? xs with
    | none => rw [q] at h; cases h
    | some ns =>
      rw [q] at h
      cases ns with
      | nil => cases h
      | cons n ns =>
        simp only [Option.bind_some, foldl_max?, Option.map_some, Option.some.injEq] at h
        subst h
        rw [ints_some q]
        refine CallR.imp (call_minmaxT true hc hu) fun xs H Q ⟨F, s, hx, w⟩ => ?_
        obtain ⟨v, rfl, hv⟩ := hx.one
        obtain ⟨a, vs, rfl, ha, ra⟩ := hv.tup
        rw [ra.ints] at ha
        exact ⟨a, n, ns, rfl, SqT.sub s ha, w.frz s (.int _)⟩
  · rename_i xs
    cases q : ints? xs with
    | none => rw [q] at h; cases h
    | some ns =>
      rw [q] at h
      cases h
      rw [ints_some q]
      refine CallR.imp (call_sumT hc) fun xs H Q ⟨F, s, hx, w⟩ => ?_
      obtain ⟨v, rfl, hv⟩ := hx.one
      obtain ⟨a, vs, rfl, ha, ra⟩ := hv.tup
      rw [ra.ints] at ha
      exact ⟨a, ns, rfl, SqT.sub s ha, w.frz s (.int _)⟩
  · rename_i xs
    cases q : bools? xs with
    | none => rw [q] at h; cases h
    | some ns =>
      rw [q] at h
      cases h
      rw [bools_some q]
      refine CallR.imp (cr_all hc) fun xs H Q ⟨F, s, hx, w⟩ => ?_
      obtain ⟨v, rfl, hv⟩ := hx.one
      obtain ⟨a, vs, rfl, ha, ra⟩ := hv.lst
      rw [ra.bools] at ha
      exact ⟨a, ns, rfl, .inl ha, w.frz s (.bl _)⟩
  · rename_i xs
    cases q : bools? xs with
    | none => rw [q] at h; cases h
    | some ns =>
      rw [q] at h
      cases h
      rw [bools_some q]
      refine CallR.imp (cr_any hc) fun xs H Q ⟨F, s, hx, w⟩ => ?_
      obtain ⟨v, rfl, hv⟩ := hx.one
      obtain ⟨a, vs, rfl, ha, ra⟩ := hv.lst
      rw [ra.bools] at ha
      exact ⟨a, ns, rfl, .inl ha, w.frz s (.bl _)⟩
  · rename_i kvs
    cases q : Ev.intKeys kvs with
    | none => rw [q] at h; cases h
    | some ks =>
      rw [q] at h
      simp only [Option.bind_some] at h
      split at h
      · rename_i hl
        cases h
        refine CallR.imp (call_sortedDI hc) fun xs H Q ⟨F, s, hx, w⟩ => ?_
        obtain ⟨v, rfl, hv⟩ := hx.one
        obtain ⟨a, vs, rfl, ha, hk⟩ := hv.dct fun d e => by rw [e] at q; cases q
        refine ⟨a, vs, ks, rfl, .inl ha, hk.intKeys q, hl, fun ys p hp hs => ?_⟩
        have e : ys = ks.mergeSort fun a b => decide (a ≤ b) := List.Perm.eq_of_pairwise (le := (· ≤ ·)) (fun a b _ _ h1 h2 => Int.le_antisymm h1 h2) hs
          ((List.pairwise_mergeSort (le := fun a b : Int => decide (a ≤ b)) (fun a b c h1 h2 => by simp only [decide_eq_true_eq] at *; omega) (fun a b => by rw [Bool.or_eq_true, decide_eq_true_eq, decide_eq_true_eq]; omega) ks).imp fun h => by simpa using h)
          (hp.trans (List.mergeSort_perm ks _).symm)
        rw [e]
        rw [isort_int] at w
        exact w.lst s (RpAll.ofInts _) p
      · cases h
  · rename_i x _
    cases q : seq? x with
    | none => rw [q] at h; cases h
    | some ds =>
      rw [q] at h
      simp only [Option.bind_some] at h
      split at h
      · rename_i hk
        cases h
        refine CallR.imp (call_sorted hu q hk) fun xs H Q ⟨F, s, hx, w⟩ => ?_
        rw [isort_data] at w
        obtain ⟨v, rfl, hv⟩ := hx.one
        exact ⟨F, v, rfl, s, hv, w⟩
      · cases h
  · cases h
    refine CallR.imp call_int1 fun xs H Q ⟨F, s, hx, w⟩ => ?_
    obtain ⟨v, rfl, hv⟩ := hx.one
    rw [hv.int]
    exact .inl ⟨_, rfl, w.frz s (.int _)⟩
  · cases h
    refine CallR.imp call_int1 fun xs H Q ⟨F, s, hx, w⟩ => ?_
    obtain ⟨v, rfl, hv⟩ := hx.one
    rw [hv.bl]
    exact .inr ⟨_, rfl, w.frz s (.int _)⟩
  · rename_i x
    cases x with
    | list ds =>
      cases h
      refine CallR.imp call_list_of fun xs H Q ⟨F, s, hx, w⟩ => ?_
      obtain ⟨v, rfl, hv⟩ := hx.one
      obtain ⟨a, vs, rfl, ha, ra⟩ := hv.lst
      exact ⟨a, vs, rfl, .inl (.inl ha), w.lst s ra⟩
    | tuple ds =>
      cases h
      refine CallR.imp call_list_of fun xs H Q ⟨F, s, hx, w⟩ => ?_
      obtain ⟨v, rfl, hv⟩ := hx.one
      obtain ⟨a, vs, rfl, ha, ra⟩ := hv.tup
      exact ⟨a, vs, rfl, .inr (SqT.sub s ha), w.lst s ra⟩
    | _ => cases h
  · rename_i x
    cases x with
    | list ds =>
      cases h
      refine CallR.imp call_tuple_ofN fun xs H Q ⟨F, s, hx, w⟩ => ?_
      obtain ⟨v, rfl, hv⟩ := hx.one
      obtain ⟨a, vs, rfl, ha, ra⟩ := hv.lst
      exact ⟨a, vs, rfl, .inl ⟨.inl ha, w.tup s ra⟩⟩
    | tuple ds =>
      cases h
      refine CallR.imp call_tuple_ofN fun xs H Q ⟨F, s, hx, w⟩ => ?_
      obtain ⟨v, rfl, hv⟩ := hx.one
      obtain ⟨a, vs, rfl, ha, ra⟩ := hv.tupN
      exact ⟨a, vs, rfl, .inr ⟨SqT.sub s ha.sqt, w.frz s (.tup ha ra)⟩⟩
    | _ => cases h
  · rename_i b
    cases h
    intro pins s σ H xs us Q I rx ⟨F, sub, hx, w⟩
    obtain ⟨v, rfl, hv⟩ := hx.one
    rw [hv.bl] at rx
    obtain ⟨u, rfl, ru⟩ := vals1 rx
    cases (show u = Value.bool b from ru)
    exact PySem.P.repr_of_bool ⟨.str _, H, I.tok _, ⟨_, rfl⟩, w.frz sub (.str _)⟩
  · cases h

/-! ### subscripts, slices -/
def IxS (X : Cx) (u v d : PV) : Prop := IxR X fun x y H Q => ∃ F, Sub F H ∧ RpT X.K F H x u ∧ RpT X.K F H y v ∧ Want X.K F H (.frz d) Q
theorem at_ok {K : Frag} {F : Hp} {vs : List V} {ds : List PV} {i : Int} {d : PV} (ra : RpAll K F vs ds) (h : ((ixN ds.length i).bind fun j => ds[j]?) = some d) : ∃ v, atI vs i = some v ∧ Rp K F v d := by
  cases q : ixN ds.length i with
  | none => rw [q] at h; cases h
  | some j =>
    rw [q] at h
    obtain ⟨v, h1, h2⟩ := ra.get h
    refine ⟨v, ?_, h2⟩
    unfold atI
    rw [ra.length, show L2.ixN ds.length i = some j from q]
    exact h1
theorem idx_ok {u v d : PV} (hu : X.A.units + 1 < cLine) (h : idxOp u v = some d) : IxS X u v d := by
  unfold idxOp at h
  split at h
  · refine IxR.imp ix_list fun x y H Q ⟨F, s, hx, hy, w⟩ => ?_
    obtain ⟨a, vs, rfl, ha, ra⟩ := hx.lst
    obtain ⟨z, h1, h2⟩ := at_ok ra h
    exact ⟨a, vs, _, z, rfl, hy.int, .inl ha, h1, w.frz s h2⟩
  · refine IxR.imp ix_tup fun x y H Q ⟨F, s, hx, hy, w⟩ => ?_
    obtain ⟨a, vs, rfl, ha, ra⟩ := hx.tup
    obtain ⟨z, h1, h2⟩ := at_ok ra h
    exact ⟨a, vs, _, z, rfl, hy.int, SqT.sub s ha, h1, w.frz s h2⟩
  · refine IxR.imp ix_list fun x y H Q ⟨F, s, hx, hy, w⟩ => ?_
    rcases hx with ⟨a, kvs, rfl, _, hk⟩ | ⟨a, vs, es, rfl, e, ha, ra⟩
    · exact hk.not.elim
    · cases e
      obtain ⟨z, h1, h2⟩ := at_ok ra h
      exact ⟨a, vs, _, z, rfl, hy.int, ha, h1, w.frz s h2⟩
  · cases h
  · rename_i kvs hn1 hn2
    cases hq : keyQ v with
    | none => rw [hq] at h; cases h
    | some q =>
      rw [hq] at h
      refine IxR.imp (ix_dct hu) fun x y H Q ⟨F, s, hx, hy, w⟩ => ?_
      obtain ⟨a, vs, rfl, ha, hk⟩ := hx.dct fun d e => by first | exact hn1 d (by rw [e]) | exact hn2 d (by rw [e])
      rcases hk.get (q := q) with ⟨e1, e2⟩ | ⟨v, d', e1, e2, r⟩
      · rw [Option.bind_some, e2] at h; cases h
      · rw [Option.bind_some, e2] at h
        cases h
        exact ⟨a, v, rfl, by rw [keyQ_kV hy hq, ← e1]; exact DGet.k ha, w.frz s r⟩
  · cases h
def SlS (X : Cx) (u : PV) (lo hi : Option Int) (r : Rv) : Prop := SlR X fun x l h H Q => l = lo ∧ h = hi ∧ ∃ F, Sub F H ∧ RpT X.K F H x u ∧ Want X.K F H r Q
theorem SlR.imp {r r' : V → Option Int → Option Int → Hp → VK → Prop} (h : SlR X r) (i : ∀ x l u H Q, r' x l u H Q → r x l u H Q) : SlR X r' := fun pins s σ H x v vl vu lo hi sl Q I a b c d q => h pins s σ H x v vl vu lo hi sl Q I a b c d (i _ _ _ _ _ q)
theorem cut_ok {K : Frag} {F : Hp} {vs : List V} {ds : List PV} (ra : RpAll K F vs ds) (lo hi : Option Int) : RpAll K F (cutV vs lo hi) (cut ds lo hi) := by
  have e1 : ∀ d o, HT.sIx vs.length d o = sIx ds.length d o := fun d o => by rw [ra.length]; rfl
  unfold cutV cut
  rw [e1, e1, ra.length]
  exact (ra.drop _).take _
theorem slc_ok {u : PV} {lo hi : Option Int} {r : Rv} (h : slcOp lo hi u = some r) : SlS X u lo hi r := by
  unfold slcOp at h
  split at h
  · cases h
    refine SlR.imp sl_list fun x l u H Q ⟨e1, e2, F, s, hx, w⟩ => ?_
    subst e1 e2
    obtain ⟨a, vs, rfl, ha, ra⟩ := hx.lst
    exact ⟨a, vs, rfl, .inl ha, w.lst s (cut_ok ra _ _)⟩
  · cases h
    rename_i ds
    refine SlR.imp sl_tupN fun x l u H Q ⟨e1, e2, F, s, hx, w⟩ => ?_
    subst e1 e2
    obtain ⟨a, vs, rfl, ha, ra⟩ := hx.tupN
    refine ⟨a, vs, rfl, SqT.sub s ha.sqt, fun hw => ?_, fun _ => w.tup s (cut_ok ra _ _)⟩
    have e : cut ds l u = ds := by
      have h1 : sIx ds.length 0 l = 0 := by rw [← ra.length]; exact hw.1
      have h2 : sIx ds.length ds.length u = ds.length := by rw [← ra.length]; exact hw.2
      unfold cut
      rw [h1, h2]
      simp
    rw [e] at w
    exact w.frz s (.tup ha ra)
  · cases h

/-! ### truth -/
def TruS (X : Cx) (u : PV) (b : Bool) : Prop := TruR X fun x H Q => ∃ F, Sub F H ∧ RpT X.K F H x u ∧ Q b H
theorem emptyL {K : Frag} {F : Hp} {vs : List V} {ds : List PV} (ra : RpAll K F vs ds) : (!vs.isEmpty) = !ds.isEmpty := by cases ra <;> rfl
theorem emptyKv {K : Frag} {F : Hp} {vs : List (Key × V)} {ds : List (PV × PV)} (ra : RpKv K F vs ds) : (!vs.isEmpty) = !ds.isEmpty := by cases ra <;> rfl
theorem truV {K : Frag} {F H : Hp} {x : V} {u : PV} {b : Bool} (h : truth u = some b) (sub : Sub F H) (hx : RpT K F H x u) : TruV K x H b := by
  unfold truth at h
  split at h
  · cases h; rw [hx.non]; rfl
  · cases h; rw [hx.bl]; rfl
  · cases h; rw [hx.int]; show _ = _; rename_i i; by_cases e : i = 0 <;> simp [e]
  · split at h
    · rename_i z hz
      cases h
      rw [hx.str]
      refine ⟨by rw [← lim_eq]; exact hz, ?_⟩
      by_cases e : (z.length : Int) = 0
      · simp [e]
      · have e2 : ¬ z.length = 0 := fun q => e (by rw [q]; rfl)
        simp [e2]
    · cases h
  · cases h
    obtain ⟨a, vs, rfl, ha, ra⟩ := hx.lst
    exact .inl ⟨vs, .inl ha, (emptyL ra).symm⟩
  · cases h
    obtain ⟨a, vs, rfl, ha, ra⟩ := hx.tup
    exact .inr (.inl ⟨vs, SqT.sub sub ha, (emptyL ra).symm⟩)
  · cases h
  · rename_i kvs hn
    cases h
    rcases hx with ⟨a, kvs, rfl, ha, hk⟩ | ⟨a, vs, es, rfl, e, ha, ra⟩
    · exact .inr (.inr ⟨kvs, ha, (emptyKv hk).symm⟩)
    · exact (hn _ e).elim
theorem truth_ok {u : PV} {b : Bool} (h : truth u = some b) : TruS X u b := by
  intro pins s σ H x v Q I rx ⟨F, sub, hx, q⟩
  exact tru_ok pins s σ H x v Q I rx ⟨b, truV h sub hx, q⟩

/-! ### isinstance -/
def tyName : PV → String
  | .none => "NoneType" | .bool _ => "bool" | .int _ => "int" | .str _ => "str" | .list _ => "list" | .tuple _ => "tuple" | .dict _ => "dict"
theorem tyX_list {K : Frag} {H : Hp} {a : Addr} {xs : List V} (h : Rd H a (.lst xs)) : TyX K H (.ref a) (.type "list") := by
  rcases h with h | ⟨o, h⟩
  · exact .base (.lst h)
  · exact .base (.frz h)
theorem tyX_tup {K : Frag} {H : Hp} {a : Addr} {xs : List V} (h : SqT K H a xs) : TyX K H (.ref a) (.type "tuple") := by
  rcases h with (h | ⟨o, h⟩) | ⟨o, its, n, h1, h2, _⟩
  · exact .base (.tup h)
  · exact .fTuple h
  · exact .kTuple h1 h2
theorem isi_kit (T : Ty) (d : PV) : kitB (tyName d) T.name = some (isiB T d) := by
  cases T <;> cases d <;> (dsimp only [tyName, Ty.name, isiB]; decide +kernel)
theorem Rp.ty {K : Frag} {F H : Hp} (s : Sub F H) {v : V} {d : PV} (h : RpT K F H v d) (n : isScript d = false) : TyX K H v (.type (tyName d)) := by
  cases d with
  | none => rw [h.non]; exact .base .non
  | bool b => rw [h.bl]; exact .base (.bl b)
  | int b => rw [h.int]; exact .base (.int b)
  | str b => rw [h.str]; exact .base (.str b)
  | list ds => obtain ⟨a, vs, rfl, ha, ra⟩ := h.lst; exact tyX_list ha
  | tuple ds => obtain ⟨a, vs, rfl, ha, ra⟩ := h.tup; exact tyX_tup (SqT.sub s ha)
  | dict ds =>
    rcases h with ⟨a, kvs, rfl, ha, hk⟩ | ⟨a, vs, es, rfl, e, ha, ra⟩
    · exact .base (.dK ha)
    · subst e; cases n
/-- isinstance by data: the class as a built-in type -/
theorem isi_ok {T : Ty} {d : PV} {b : Bool} (h : isiOp T d = some b) :
    CallR X (.builtin "isinstance") fun xs H Q => ∃ F v, xs = [v, .ty T.name] ∧ Sub F H ∧ RpT X.K F H v d ∧ Q (.bl b) H := by
  unfold isiOp at h
  split at h
  · cases h
  · rename_i n
    cases h
    refine CallR.imp call_isi fun xs H Q ⟨F, v, e, s, hx, q⟩ => ?_
    subst e
    exact ⟨v, .ty T.name, _, _, _, rfl, .ty _, Rp.ty s hx (by simpa using n), kit_ty (isi_kit T d), q⟩

/-! ### methods -/
def mthName : Mth → String × Str × String
  | .count => ("list", "count", "list.count")
  | .index => ("list", "index", "list.index")
def MtS (X : Cx) (id : String) (u : PV) (us : List PV) (r : Rv) : Prop := MtR X id fun x xs H Q => ∃ F, Sub F H ∧ RpT X.K F H x u ∧ RTs X.K F H xs us ∧ Want X.K F H r Q
/-- t.count(k), t.index(k), ints -/
theorem mt_tcount : MtR X "tuple.count" fun x xs H Q => ∃ (p : Addr) (ns : List Int) (k : Int), x = .ref p ∧ xs = [.int k] ∧ SqT X.K H p (ns.map V.int) ∧ Q (.int (ns.count k : Nat)) H := by
  intro pins s σ H x xs v us Q I rx rxs ⟨p, ns, k, ex, exs, hs, q⟩
  subst ex exs
  cases rx
  obtain ⟨u, rfl, t, rfl⟩ := rxs.one
  obtain ⟨its, rv, ⟨⟨cls, dd, data, sl⟩, ho, hc, n, hd⟩, _⟩ := I.tuple hs
  simp only at hc hd
  subst hc hd
  have hi := ints_of_vals rv
  refine call_meets PySem.F.slot_tuple_count ⟨_, ho, rfl⟩ PySem.F.entry_tuple_count (PySem.F.args_tuple_count_2 _ _)
    (SeqAt.tuple_countAt p its.toArray n dd sl (.int k t) (eqk k)) ⟨ho, fun y hy => (eqk_gives hi y (by simpa using hy)).at _ _, ?_⟩
  refine ⟨.int (ns.count k : Nat), H, I.tok _, ⟨s.toks, ?_⟩, q⟩
  show Value.int ((its.toArray.toList.countP (eqk k) : Nat) : Int) s.toks = _
  rw [show its.toArray.toList.countP (eqk k) = ns.count k from eqk_count hi]
theorem mt_tindex : MtR X "tuple.index" fun x xs H Q => ∃ (p : Addr) (ns : List Int) (k : Int), x = .ref p ∧ xs = [.int k] ∧ SqT X.K H p (ns.map V.int) ∧ k ∈ ns ∧ Q (.int (ns.idxOf k : Nat)) H := by
  intro pins s σ H x xs v us Q I rx rxs ⟨p, ns, k, ex, exs, hs, hk, q⟩
  subst ex exs
  cases rx
  obtain ⟨u, rfl, t, rfl⟩ := rxs.one
  obtain ⟨its, rv, ht, _⟩ := I.tuple hs
  exact PySem.SeqAt.tuple_index_ints (vs := its) ht (Vals.ints rv) hk ⟨.int (ns.idxOf k : Nat), H, I.tok _, ⟨s.toks, rfl⟩, q⟩
def mthNameT : Mth → String
  | .count => "tuple.count"
  | .index => "tuple.index"
theorem mthT_inv {m : Mth} {xs us : List PV} {r : Rv} (h : mthOp m (.tuple xs) us = some r) : ∃ k ns, us = [.int k] ∧ ints? xs = some ns ∧ ((m = .count ∧ r = .frz (.int (ns.count k : Nat))) ∨ (m = .index ∧ k ∈ ns ∧ r = .frz (.int (ns.idxOf k : Nat)))) := by
  rcases us with _ | ⟨u, _ | ⟨v, us⟩⟩
  · cases m <;> cases h
  · cases u with
    | int k =>
      cases m with
      | count =>
        have h : ((ints? xs).map fun ns => Rv.frz (.int (ns.count k : Nat))) = some r := h
        cases q : ints? xs with
        | none => rw [q] at h; cases h
        | some ns => rw [q] at h; cases h; exact ⟨k, ns, rfl, rfl, .inl ⟨rfl, rfl⟩⟩
      | index =>
        have h : ((ints? xs).bind fun ns => if k ∈ ns then some (Rv.frz (.int (ns.idxOf k : Nat))) else none) = some r := h
        cases q : ints? xs with
        | none => rw [q] at h; cases h
        | some ns =>
          rw [q, Option.bind_some] at h
          split at h
          · rename_i hk
            cases h; exact ⟨k, ns, rfl, rfl, .inr ⟨rfl, hk, rfl⟩⟩
          · cases h
    | _ => cases m <;> cases h
  · cases m <;> (cases u <;> cases h)
theorem mthT_ok {m : Mth} {xs : List PV} {us : List PV} {r : Rv} (h : mthOp m (.tuple xs) us = some r) : MtS X (mthNameT m) (.tuple xs) us r := by
  obtain ⟨k, ns, rfl, q, ⟨rfl, rfl⟩ | ⟨rfl, hk, rfl⟩⟩ := mthT_inv h
  · rw [ints_some q]
    refine MtR.imp mt_tcount fun x zs H Q ⟨F, s, hx, hxs, w⟩ => ?_
    obtain ⟨v, rfl, hv⟩ := hxs.one
    obtain ⟨a, vs, rfl, ha, ra⟩ := hx.tup
    rw [ra.ints] at ha
    exact ⟨a, ns, _, rfl, by rw [hv.int], SqT.sub s ha, w.frz s (.int _)⟩
  · rw [ints_some q]
    refine MtR.imp mt_tindex fun x zs H Q ⟨F, s, hx, hxs, w⟩ => ?_
    obtain ⟨v, rfl, hv⟩ := hxs.one
    obtain ⟨a, vs, rfl, ha, ra⟩ := hx.tup
    rw [ra.ints] at ha
    exact ⟨a, ns, _, rfl, by rw [hv.int], SqT.sub s ha, hk, w.frz s (.int _)⟩
theorem mth_ok {m : Mth} {u : PV} {us : List PV} {r : Rv} (hu : X.A.units + 70 < cLine) (hl : isListV u = true) (h : mthOp m u us = some r) : MtS X (mthName m).2.2 u us r := by
  unfold mthOp at h
  split at h
  · rename_i xs k
    cases q : ints? xs with
    | none => rw [q] at h; cases h
    | some ns =>
      rw [q] at h
      cases h
      rw [ints_some q]
      refine MtR.imp mt_lcount fun x xs H Q ⟨F, s, hx, hxs, w⟩ => ?_
      obtain ⟨v, rfl, hv⟩ := hxs.one
      obtain ⟨a, vs, rfl, ha, ra⟩ := hx.lst
      rw [ra.ints] at ha
      exact ⟨a, ns, k, rfl, by rw [hv.int], .inl ha, w.frz s (.int _)⟩
  · rename_i xs y
    split at h
    · rename_i hs
      rw [Bool.and_eq_true] at hs
      cases q : xs.findIdx? (fun z => PyData.eqv z y) with
      | none => rw [q] at h; cases h
      | some j =>
        rw [q] at h
        cases h
        obtain ⟨hj, e1, e2⟩ := List.findIdx?_eq_some_iff_getElem.mp q
        refine MtR.imp (mt_indexD (by omega)) fun x zs H Q ⟨F, s, hx, hxs, w⟩ => ?_
        obtain ⟨v, rfl, hv⟩ := hxs.one
        have d1 := (hx.rp s).dp (plain_of_lay _ (SeqAt.canLay_of_shaped hs.1))
        obtain ⟨a, vs, rfl, ha, ra⟩ := hx.lst
        refine ⟨a, v, y, xs, j, xs[j], rfl, rfl, d1, (hv.rp s).dp (plain_of_lay _ (SeqAt.canLay_of_shaped hs.2)), hs.1, hs.2, List.getElem?_eq_getElem hj, e1, fun m z hm hz => ?_, w.frz s (.int _)⟩
        obtain ⟨h1, h2⟩ := List.getElem?_eq_some_iff.mp hz
        have := e2 m hm
        rw [h2] at this
        simpa using this
    · cases h
  · cases hl
  · cases hl
  · cases h
end
end Ev

/-! Ev7: what loops and comprehensions walk; enumerate of a tuple. -/
namespace Ev
open PySem PySem.Spec L2
open PySem.AutoSeq1 (wpAny_loadPart')
theorem enum_newT (l : Addr) (items : Array Value) (n : Nat) (dct : Option Addr) (sl : Array (Option Value)) :
    Meets (Builtin.«enumerate.__new__» ⟨[.type "enumerate", .ref l], []⟩) (fun _ R s => s.heap.get? l = some { cls := .type "tuple", dict := dct, data := .seq items n, slots := sl } ∧
      R (.ok (.ret (.ref (s.heap.push { cls := .type "tuple_iterator", data := .fields #[.ref l, .int 0 0] }).objs.size)))
        { s with heap := (s.heap.push { cls := .type "tuple_iterator", data := .fields #[.ref l, .int 0 0] }).push { cls := .type "enumerate", data := .fields #[.none, .bool false, .ref s.heap.objs.size, rawInt 0, .none, .none] } }) :=
  .of_wp fun prog w A R s h => by
    obtain ⟨hp, g, d, tk, os⟩ := s; obtain ⟨hl, h⟩ := h
    have hsub := sub_enumerate
    have hL : Heap.IsTuple (Shared.heap ⟨hp, g, d, tk, os⟩) l items := ⟨_, hl, rfl, n, rfl⟩
    wp_walk using wpAny_loadPart' hl
    refine wpAny_stack_any fun st => wpAny_pure ?_
    split
    · rename_i c _ _ _ _ _
      cases (c == Value.type "enumerate")
      · wp_walk using wpAny_loadPart' hl, wpAny_pyIter_tuple hL
        exact ⟨_, rfl, h⟩
      · wp_walk using wpAny_loadPart' hl, wpAny_pyIter_tuple hL
        exact ⟨_, rfl, h⟩
    · wp_walk using wpAny_loadPart' hl, wpAny_pyIter_tuple hL
      exact ⟨_, rfl, h⟩
section
variable {prog : Program} {w : World} {A : Around} {E : Value → Shared → Prop} {s : Shared}
theorem call_enumerate_tup {l : Addr} {items : Array Value} {Q : Value → Shared → Prop} (hL : s.heap.IsTuple l items)
    (h : ∀ h', IsEnum h' (s.heap.objs.size + 1) s.heap.objs.size 0 .none → h'.IsTupleIter s.heap.objs.size l 0 → h'.objs.size = s.heap.objs.size + 2 →
      (∀ b o, s.heap.get? b = some o → h'.get? b = some o) → Q (.ref (s.heap.objs.size + 1)) { s with heap := h' }) :
    wpAny (model prog w) A (call (.type "enumerate") [.ref l]) Q E s := by
  obtain ⟨⟨c, dct, dt, sl⟩, hl, hc, n, hd⟩ := hL
  replace hc : c = .type "tuple" := hc
  replace hd : dt = .seq items n := hd
  subst hc hd
  refine callType_new F.called_enumerate (by decide) (F.typeCall_enumerate_1 _) (F.newCall_enumerate_1 _) (fun obj => F.args_object_init_2 obj _) F.entry_enumerate_new
    (enum_newT l items n dct sl) ⟨hl, ?_⟩
  have hz : (s.heap.push { cls := .type "tuple_iterator", data := .fields #[.ref l, .int 0 0] }).objs.size = s.heap.objs.size + 1 := Heap.size_push ..
  show _ ∧ _
  rw [hz]
  have he : IsEnum ((s.heap.push { cls := .type "tuple_iterator", data := .fields #[.ref l, .int 0 0] }).push
      { cls := .type "enumerate", data := .fields #[.none, .bool false, .ref s.heap.objs.size, rawInt 0, .none, .none] }) (s.heap.objs.size + 1) s.heap.objs.size 0 .none := by
    have := Heap.get?_push_size (s.heap.push { cls := .type "tuple_iterator", data := .fields #[.ref l, .int 0 0] })
      (o := { cls := .type "enumerate", data := .fields #[.none, .bool false, .ref s.heap.objs.size, rawInt 0, .none, .none] }) rfl
    rw [hz] at this; exact this
  refine ⟨⟨_, he, rfl⟩, h _ he ⟨_, Heap.get?_push_of_some _ (Heap.get?_push_size _ rfl), rfl, rfl⟩ (by rw [Heap.size_push, hz]) fun b o x => Heap.get?_push_of_some _ (Heap.get?_push_of_some _ x)⟩
end
def IteT (K : Frag) (a : Addr) : It :=
  ⟨fun i H => ∃ (xs : List V) (x : V), SqT K H a xs ∧ xs[i]? = some x, fun i H v H' => ∃ T x, v = .ref T ∧ H T = none ∧ H' = upd H T (.tup [.int (i : Nat), x]) ∧ ∀ xs, SqT K H a xs → xs[i]? = some x, fun i H => ∃ xs : List V, SqT K H a xs ∧ xs.length ≤ i⟩
theorem turn_enumT {P : Program} {w : World} {K : Frag} {elts : List Expr} {kk : Nat} {tpos : Pos} (a e it : Addr) :
    Turn P w K (.Tuple elts kk tpos) (IteT K a) [e, it] e (fun i h => (∃ old, IsEnum h e it ((i : Nat) : Int) old) ∧ h.IsTupleIter it a i ∧ e ≠ it ∧ a ≠ it ∧ e ≠ a) where
  mem := by simp
  obj := fun i h st b hb => by
    obtain ⟨⟨old, he⟩, ⟨o, ho, hc, hd⟩, _⟩ := st
    have e' : b = e ∨ b = it := by simpa using hb
    rcases e' with z | z
    · rw [z]; exact ⟨_, he, fun v q => nomatch q⟩
    · rw [z]; exact ⟨o, ho, fun v q => by rw [hd] at q; cases q⟩
  keep := fun i h h' st k => let ⟨⟨old, he⟩, hi, hne⟩ := st; ⟨⟨old, k e (by simp) _ he⟩, hi.at fun o q => k it (by simp) o q, hne⟩
  item := by
    intro X hP hw hK hc i pins s σ H E I hf st hg
    subst hP hw hK
    obtain ⟨⟨old, he⟩, hit, hne, hai, hea⟩ := st
    obtain ⟨xs, x, hq, hx⟩ := hg
    obtain ⟨its, rv, p, hz⟩ := I.tuple hq
    obtain ⟨u, hu, ru⟩ := rv.get hx
    have hel : e < s.heap.objs.size := Heap.lt_size he
    have hil : it < s.heap.objs.size := by obtain ⟨_, q, _⟩ := hit; exact Heap.lt_size q
    have hlt : i < its.toArray.size := by
      have := (List.getElem?_eq_some_iff.mp hu).1
      simpa using this
    refine wpAny_pyNext_enum_itemD (Draws.tuple (A := X.A.in1) (I.ok.hd hc) it a hai its.toArray) he ⟨hit, p⟩ hlt hne (by simp [hne, hea]) fun y h' tk hy ho hst' hT hsz hk => ?_
    have ey : y = u := by
      have : its[i]? = some y := by simpa using hy
      rw [hu] at this; exact (Option.some.inj this).symm
    subst ey
    refine ⟨_, rfl, wpAny_letOwnedTupleGo_enum (s := { s with heap := h', toks := tk + 1 }) ho fun h'' he' sb => ?_⟩
    have hT2 : h''.get? s.heap.objs.size = some { cls := .type "tuple", data := .seq #[.int i tk, y] } := (sb.2 _ (Nat.ne_of_gt hel)).trans hT
    have new : ObjOk X.prog X.w (upd H s.heap.objs.size (.tup [.int (i : Nat), x])) h'' s.heap.objs.size (.tup [.int (i : Nat), x]) :=
      ⟨by show 2 ≤ sizeLine; decide, [.int i tk, y], .cons ⟨_, rfl⟩ (.cons ru .nil), ⟨_, hT2, rfl, _, rfl⟩⟩
    have I1 : L2.Inv X pins σ (upd H s.heap.objs.size (.tup [.int (i : Nat), x])) { s with heap := h'', toks := tk + 1 } :=
      I.turnedNew (ch := [e, it]) (fun b ob hb q => (sb.2 b (fun z => hb (by simp [z]))).trans (hk b ob (fun z => hb (by simp [z])) (fun z => hb (by simp [z])) q)) hf (Nat.le_refl _) new
    refine ⟨.ref s.heap.objs.size, _, I1, rfl, ⟨_, x, rfl, I.hok.fresh (Nat.le_refl _), rfl, fun ys hy => by rw [I.tuple_inj hy hq]; exact hx⟩, ⟨⟨y, ?_⟩, hst'.1.at fun o q => (sb.2 it (Ne.symm hne)).trans q, hne, hai, hea⟩, fun b hb => ?_⟩
    · have e1 : ((i + 1 : Nat) : Int) = (i : Int) + 1 := by omega
      rw [e1]; exact he'
    · have hb' : b < s.heap.objs.size := by
        have e' : b = e ∨ b = it := by simpa using hb
        rcases e' with z | z
        · rw [z]; exact hel
        · rw [z]; exact hil
      rw [upd_ne (Nat.ne_of_lt hb')]
      exact (hf b hb).1
  done := by
    intro X hP hw hK hc i pins s σ H E I hf st hg
    subst hP hw hK
    obtain ⟨⟨old, he⟩, hit, hne, hai, hea⟩ := st
    obtain ⟨xs, hq, hx⟩ := hg
    obtain ⟨its, rv, p, hz⟩ := I.tuple hq
    obtain ⟨f0, f1, f2, f3, f4, f5⟩ := hf it (by simp)
    have hl := rv.length
    have D := Draws.tuple (prog := X.prog) (w := X.w) (A := X.A.in1) (I.ok.hd hc) it a hai its.toArray
    -- the end: the iterator is at or behind the last item
    have hT : s.TypeIs (.ref e) "enumerate" := ⟨_, he, rfl⟩
    unfold pyNext
    refine wpAny_bind (wpAny_attempt (wpAny_callSpecial?_slot (name := Str.ofString "__next__") hT F.slot_enumerate_next
      (wpAny_call_entry F.slot_enumerate_next hT F.entry_enumerate_next ?_ (F.args_enumerate_next_1 _))))
    show wpAny _ _ (field (.ref e) 2 >>= _) _ _ _
    refine wpAny_bind (wpAny_field he rfl (x := .ref it) rfl ?_)
    refine wpAny_bind (wpAny_nextOf_tuple_end (I.ok.hd hc) hit p (by simp; omega) fun h' x he' hx' => ?_)
    obtain ⟨o, ho, hc⟩ := hx'
    refine wpAny_bind (wpAny_isInstance (T := "StopIteration") (b := true) ⟨o, ho, hc⟩ isSubtype_stop ?_)
    exact wpAny_pure ⟨rfl, I.turned (t' := s.toks) (fun b o hb q => he' b o hb q) f0 f1 f3 f4 f5⟩
  self := fun A i s Q E st h => let ⟨⟨_, he⟩, _⟩ := st; wpAny_pyIter_enum he h
def iEnumT (K : Frag) (ta : TA) : TI := fun σ H R => ta σ H fun vs H1 => ∃ a xs, vs = [.ref a] ∧ SqT K H1 a xs ∧ R (IteT K a) H1
def iEnumA (K : Frag) (ta : TA) : TI := fun σ H R => ta σ H fun vs H1 => ∃ a xs, vs = [.ref a] ∧ ((SqL K H1 a xs ∧ R (Ite K a) H1) ∨ (SqT K H1 a xs ∧ R (IteT K a) H1))
theorem pi_enumA {X : Cx} {e : Expr} {ta : TA} {p pos tpos : Pos} {elts : List Expr} {kk : Nat} (hg : Gl X "enumerate") (hm : X.mg "enumerate" = none) (ha : PA X [e] ta) (hs : starEach [e] X.env = [(false, eval e X.env)]) :
    PI X (.Tuple elts kk tpos) (.Call (.Name "enumerate" p) [e] [] pos) (iEnumA X.K ta) := by
  refine ⟨fun pins s σ H R I h => ?_⟩
  refine PyProof.Rows.Call_ (ld_blt I hg hm PyProof.Rows.boot_enumerate (PyProof.Rows.callWith_type1 (thn (ha.run pos pins s σ H _ I h) fun us s1 ⟨vs, H1, I1, r1, q1⟩ => ?_) hs rfl))
  obtain ⟨a, xs, ex, q1⟩ := q1
  subst ex
  cases r1 with
  | cons r rr =>
    cases rr
    cases r
    have fresh : ∀ b, b ∈ [s1.heap.objs.size + 1, s1.heap.objs.size] → FpOk X pins H1 b := fun b hb => by
      have e' : b = s1.heap.objs.size + 1 ∨ b = s1.heap.objs.size := by simpa using hb
      have hle : s1.heap.objs.size ≤ b := by
        rcases e' with z | z
        · rw [z]; exact Nat.le_add_right _ _
        · rw [z]; exact Nat.le_refl _
      exact I1.fpOk hle (I1.hok.fresh hle)
    rcases q1 with ⟨hq, q⟩ | ⟨hq, q⟩
    · obtain ⟨its, rv, p', hz⟩ := I1.list hq
      refine call_enumerate_list p'.isList fun h' he hit hsz hk => wpAny_pyIter_enum he ?_
      have I2 : L2.Inv X pins σ H1 { s1 with heap := h' } := I1.kept (t' := s1.toks) hk
      exact ⟨s1.heap.objs.size + 1, [s1.heap.objs.size + 1, s1.heap.objs.size], _, _, H1, rfl, I2, turn_enum a (s1.heap.objs.size + 1) s1.heap.objs.size, ⟨⟨.none, he⟩, hit, Nat.succ_ne_self _⟩, fresh, q⟩
    · obtain ⟨its, rv, p', hz⟩ := I1.tuple hq
      obtain ⟨ob, hob, _⟩ := id p'
      have hal := Heap.lt_size hob
      refine call_enumerate_tup (show s1.heap.IsTuple a its.toArray from p') fun h' he hit hsz hk => wpAny_pyIter_enum he ?_
      have I2 : L2.Inv X pins σ H1 { s1 with heap := h' } := I1.kept (t' := s1.toks) hk
      exact ⟨s1.heap.objs.size + 1, [s1.heap.objs.size + 1, s1.heap.objs.size], _, _, H1, rfl, I2, turn_enumT a (s1.heap.objs.size + 1) s1.heap.objs.size, ⟨⟨.none, he⟩, hit, Nat.succ_ne_self _, Nat.ne_of_lt hal, fun z => Nat.ne_of_lt (Nat.lt_succ_of_lt hal) z.symm⟩, fresh, q⟩

/-! ### walks by data -/
/-- an item that is walked; w: it may be a tuple of which nothing but its items is known -/
def RpW (K : Frag) (w : Bool) (F : Hp) (v : V) (d : PV) : Prop := Rp K F v d ∨ (w = true ∧ ∃ a xs ds, v = .ref a ∧ d = .tuple ds ∧ SqT K F a xs ∧ RpAll K F xs ds)
theorem RpW.tup {K : Frag} {w : Bool} {F : Hp} {v : V} {ds : List PV} (h : RpW K w F v (.tuple ds)) : ∃ a xs, v = .ref a ∧ SqT K F a xs ∧ RpAll K F xs ds := by
  rcases h with h | ⟨_, a, xs, es, e1, e2, h1, h2⟩
  · cases h with
    | tup a b => exact ⟨_, _, rfl, a.sqt, b⟩
  · cases e2; exact ⟨a, xs, e1, h1, h2⟩
theorem RpW.strong {K : Frag} {F : Hp} {v : V} {d : PV} (h : RpW K false F v d) : Rp K F v d := by
  rcases h with h | ⟨h, _⟩
  · exact h
  · cases h
theorem RpW.mono {K : Frag} {w w' : Bool} {F : Hp} {v : V} {d : PV} (h : RpW K w F v d) (i : w = true → w' = true) : RpW K w' F v d := by
  rcases h with h | ⟨e, h⟩
  · exact .inl h
  · exact .inr ⟨i e, h⟩
structure WalkD (K : Frag) (w : Bool) (F1 : Hp) (J : It) (ds : List PV) : Prop where
  len : ds.length ≤ sizeLine
  go : ∀ (i : Nat) (H : Hp), i < ds.length → Sub F1 H → J.go i H
  stop : ∀ H : Hp, Sub F1 H → J.stop ds.length H
  yld : ∀ (i : Nat) (F H : Hp) (x : V) (H' : Hp), i < ds.length → Sub F1 F → Sub F H → J.yld i H x H' → ∃ F' d, Grow F H F' H' ∧ ds[i]? = some d ∧ RpW K w F' x d
section
variable {K : Frag} {F1 : Hp}
theorem walkD_list {a : Addr} {xs : List V} {ds : List PV} (h : SqL K F1 a xs) (r : RpAll K F1 xs ds) (hz : xs.length ≤ sizeLine) : WalkD K false F1 (Itl K a) ds := by
  have hl := r.length
  refine ⟨by omega, fun i H hi s => ⟨xs, xs[i], SqL.sub s h, by simp⟩, fun H s => ⟨xs, SqL.sub s h, by omega⟩, fun i F H x H' hi s1 s2 y => ?_⟩
  obtain ⟨e, y⟩ := y
  subst e
  obtain ⟨d, h1, h2⟩ := r.getV (y xs (SqL.sub (s1.trans s2) h))
  exact ⟨F, d, Grow.refl s2, h1, .inl (Rp.sub s1 h2)⟩
theorem walkD_tup {a : Addr} {xs : List V} {ds : List PV} (h : SqT K F1 a xs) (r : RpAll K F1 xs ds) (hz : xs.length ≤ sizeLine) : WalkD K false F1 (Itt K a) ds := by
  have hl := r.length
  refine ⟨by omega, fun i H hi s => ⟨xs, xs[i], SqT.sub s h, by simp⟩, fun H s => ⟨xs, SqT.sub s h, by omega⟩, fun i F H x H' hi s1 s2 y => ?_⟩
  obtain ⟨e, y⟩ := y
  subst e
  obtain ⟨d, h1, h2⟩ := r.getV (y xs (SqT.sub (s1.trans s2) h))
  exact ⟨F, d, Grow.refl s2, h1, .inl (Rp.sub s1 h2)⟩
theorem walkD_range {lo : Int} {n : Nat} (hz : n ≤ sizeLine) : WalkD K false F1 (Itr lo n) ((List.range n).map fun i => .int (lo + (i : Nat))) := by
  refine ⟨by simpa using hz, fun i H hi s => (show i < n by simpa using hi), fun H s => by simp [Itr], fun i F H x H' hi s1 s2 y => ?_⟩
  obtain ⟨e, y⟩ := y
  subst e y
  have hi' : i < n := by simpa using hi
  exact ⟨F, _, Grow.refl s2, by simp [hi'], .inl (.int _)⟩
theorem pairD {F H : Hp} {T : Addr} {x y : V} {d e : PV} (s : Sub F H) (hT : H T = none) (hx : Rp K F x d) (hy : Rp K F y e) :
    Grow F H (upd F T (.tup [x, y])) (upd H T (.tup [x, y])) ∧ RpW K true (upd F T (.tup [x, y])) (.ref T) (.tuple [d, e]) := by
  have s1 : Sub F (upd F T (.tup [x, y])) := Sub.upd (s.none hT)
  exact ⟨Grow.frz s hT, .inr ⟨rfl, T, _, _, rfl, rfl, .of upd_same, .cons (Rp.sub s1 hx) (.cons (Rp.sub s1 hy) .nil)⟩⟩
theorem walkD_enum {a : Addr} {xs : List V} {ds : List PV} (h : SqL K F1 a xs) (r : RpAll K F1 xs ds) (hz : xs.length ≤ sizeLine) : WalkD K true F1 (Ite K a) (ds.zipIdx.map fun p => .tuple [.int (p.2 : Nat), p.1]) := by
  have hl := r.length
  refine ⟨by simp; omega, fun i H hi s => ⟨xs, xs[i]'(by simpa [hl] using hi), SqL.sub s h, by simp⟩, fun H s => ⟨xs, SqL.sub s h, by simp [hl]⟩, fun i F H v H' hi s1 s2 y => ?_⟩
  obtain ⟨T, x, rfl, hT, rfl, y⟩ := y
  obtain ⟨d, h1, h2⟩ := r.getV (y xs (SqL.sub (s1.trans s2) h))
  obtain ⟨g, q⟩ := pairD s2 hT (.int (i : Nat)) (Rp.sub s1 h2)
  exact ⟨_, _, g, by simp [h1], q⟩
theorem walkD_enumT {a : Addr} {xs : List V} {ds : List PV} (h : SqT K F1 a xs) (r : RpAll K F1 xs ds) (hz : xs.length ≤ sizeLine) : WalkD K true F1 (IteT K a) (ds.zipIdx.map fun p => .tuple [.int (p.2 : Nat), p.1]) := by
  have hl := r.length
  refine ⟨by simp; omega, fun i H hi s => ⟨xs, xs[i]'(by simpa [hl] using hi), SqT.sub s h, by simp⟩, fun H s => ⟨xs, SqT.sub s h, by simp [hl]⟩, fun i F H v H' hi s1 s2 y => ?_⟩
  obtain ⟨T, x, rfl, hT, rfl, y⟩ := y
  obtain ⟨d, h1, h2⟩ := r.getV (y xs (SqT.sub (s1.trans s2) h))
  obtain ⟨g, q⟩ := pairD s2 hT (.int (i : Nat)) (Rp.sub s1 h2)
  exact ⟨_, _, g, by simp [h1], q⟩
theorem walkD_zip {a b : Addr} {xs ys : List V} {ds es : List PV} (h : SqL K F1 a xs) (r : RpAll K F1 xs ds) (h' : SqL K F1 b ys) (r' : RpAll K F1 ys es) (hz : xs.length ≤ sizeLine) : WalkD K true F1 (Itz K a b) (List.zipWith (fun a b => .tuple [a, b]) ds es) := by
  have hl := r.length
  have hl' := r'.length
  refine ⟨by simp; omega, fun i H hi s => ?_, fun H s => ⟨xs, ys, SqL.sub s h, SqL.sub s h', by simp; omega⟩, fun i F H v H' hi s1 s2 y => ?_⟩
  · have h1 : i < xs.length ∧ i < ys.length := by simp at hi; omega
    exact ⟨xs, ys, xs[i]'h1.1, ys[i]'h1.2, SqL.sub s h, SqL.sub s h', by simp [h1.1], by simp [h1.2]⟩
  · obtain ⟨T, x, z, rfl, hT, rfl, y, y'⟩ := y
    obtain ⟨d, h1, h2⟩ := r.getV (y xs (SqL.sub (s1.trans s2) h))
    obtain ⟨e, h3, h4⟩ := r'.getV (y' ys (SqL.sub (s1.trans s2) h'))
    obtain ⟨g, q⟩ := pairD s2 hT (Rp.sub s1 h2) (Rp.sub s1 h4)
    exact ⟨_, _, g, by simp [List.getElem?_zipWith, h1, h3], q⟩
theorem walkD_zipT {a b : Addr} {xs ys : List V} {ds es : List PV} (h : SqT K F1 a xs) (r : RpAll K F1 xs ds) (h' : SqT K F1 b ys) (r' : RpAll K F1 ys es) (hz : xs.length ≤ sizeLine) : WalkD K true F1 (RZ.ItzT K a b) (List.zipWith (fun a b => .tuple [a, b]) ds es) := by
  have hl := r.length
  have hl' := r'.length
  refine ⟨by simp; omega, fun i H hi s => ?_, fun H s => ⟨xs, ys, SqT.sub s h, SqT.sub s h', by simp; omega⟩, fun i F H v H' hi s1 s2 y => ?_⟩
  · have h1 : i < xs.length ∧ i < ys.length := by simp at hi; omega
    exact ⟨xs, ys, xs[i]'h1.1, ys[i]'h1.2, SqT.sub s h, SqT.sub s h', by simp [h1.1], by simp [h1.2]⟩
  · obtain ⟨T, x, z, rfl, hT, rfl, y, y'⟩ := y
    obtain ⟨d, h1, h2⟩ := r.getV (y xs (SqT.sub (s1.trans s2) h))
    obtain ⟨e, h3, h4⟩ := r'.getV (y' ys (SqT.sub (s1.trans s2) h'))
    obtain ⟨g, q⟩ := pairD s2 hT (Rp.sub s1 h2) (Rp.sub s1 h4)
    exact ⟨_, _, g, by simp [List.getElem?_zipWith, h1, h3], q⟩
end
end Ev

/-! EvX: own exceptions with one field, over any built-in base (turned from the worked proof of an own error). -/
namespace PySem
namespace LowG
open PySem.W PySem.Calls PyProof.Rows PySem.HandSPX
open Builtin Builtin.ObjectAttr
structure TailOk (nw ini : String) (tail : List Value) : Prop where
  base : ∃ B, ExcBaseFacts B nw ini tail
  pass : ∀ self : Value, refuseLoop self "__setattr__" tail = pure ()
  obj : tail.contains (.type "object") = true
theorem tail_index : TailOk "IndexError.__new__" "IndexError.__init__" [.type "IndexError", .type "LookupError", .type "Exception", .type "BaseException", .type "object"] := ⟨⟨_, F.excBase_IndexError⟩, F.store_IndexError.passes, by decide +kernel⟩
theorem tail_over : TailOk "OverflowError.__new__" "OverflowError.__init__" [.type "OverflowError", .type "ArithmeticError", .type "Exception", .type "BaseException", .type "object"] := ⟨⟨_, F.excBase_OverflowError⟩, F.store_OverflowError.passes, by decide +kernel⟩
/-- own classes, then the tail -/
inductive RefsT (tail : List Value) : List Value → Prop
  | tail : RefsT tail tail
  | ref {c : Addr} {r : List Value} : RefsT tail r → RefsT tail (.ref c :: r)
theorem refs_pass {nw ini : String} {tail : List Value} (T : TailOk nw ini tail) (self : Value) : ∀ {l : List Value}, RefsT tail l → refuseLoop self "__setattr__" l = pure ()
  | _, .tail => T.pass self
  | _, .ref h => by rw [refuseLoop_ref]; exact refs_pass T self h
theorem refs_contains {tail : List Value} (X : String) : ∀ {l : List Value}, RefsT tail l → l.contains (.type X) = tail.contains (.type X)
  | _, .tail => rfl
  | _, .ref h => by rw [List.contains_cons, refs_contains X h]; rfl
theorem refs_ne {nw ini : String} {tail : List Value} (T : TailOk nw ini tail) {l : List Value} (h : RefsT tail l) : l.isEmpty = false := by
  cases h with
  | ref _ => rfl
  | tail =>
    have := T.obj
    cases tail with
    | nil => simp at this
    | cons _ _ => rfl
section
variable {prog : Program} {w : World} {A : Around} {E : Value → Shared → Prop} {R : Result → Shared → Prop} {hp : Heap} {g : Array GenState} {d : Drawn} {t : Nat} {os : OsState}
theorem exc_osaT {nw ini : String} {tail : List Value} (TT : TailOk nw ini tail) {K : W.Frag} {name : Str} {tk : Tok} {v : Value} {x C : Addr} {fv : Array Value} {cd : ClassData}
    (X : K.In hp) (hx : hp.get? x = some { cls := .ref C, data := .fields fv }) (hcd : W.clsIn K C = some cd) (hm : RefsT tail cd.mro) (hh : cd.hasDict = true) (ha : W.findIn K (.ref C) name = some none)
    (hq : ∀ h' tk' dx, (∀ b o, b ≠ x → hp.get? b = some o → h'.get? b = some o) → hp.objs.size ≤ dx → dx ≠ x → h'.get? x = some { cls := .ref C, dict := some dx, data := .fields fv } →
      h'.Ns1 dx (fun y => if y = name then some v else none) → R (.ok (.ret .none)) ⟨h', g, d, tk', os⟩) :
    codeAny (model prog w) A (.call (.builtin "object.__setattr__") ⟨[.ref x, .str name tk, v], []⟩) R ⟨hp, g, d, t, os⟩ := by
  have I : W.InstAt hp x { cls := .ref C, data := .fields fv } C none := ⟨hx, rfl, rfl, trivial⟩
  have SF := F.store_object
  have ne := refs_ne TT hm
  have hob : cd.mro.contains (.type "object") = true := (refs_contains "object" hm).trans TT.obj
  have hxs : x ≠ hp.objs.size := Nat.ne_of_lt (Heap.lt_size hx)
  have sub : W.Looks (model prog w) hp (isInstance (.ref x) (.type "object")) true := I.type.andThen (W.looks_mroIn X (by unfold W.mroIn; rw [hcd, Option.bind_some, if_neg (by rw [ne]; decide), hob]))
  refine codeAny_call_builtin SF.slot.plain SF.entry (@W.check_slot (model prog w) _ _ ⟨hp, g, d, t, os⟩ "object.__setattr__" "object" "__setattr__" (.ref x) [.str name tk, v] [] _ SF.kind SF.split sub (SF.args (.ref x) (.str name tk) v) ?_)
  have hmr : W.Looks (model prog w) hp (mroOf (.ref C)) cd.mro := (W.looks_clsIn X hcd).andThen .now
  have L3 : W.Looks (model prog w) hp (storeTaker? none) none := .now
  have hcls : W.Looks (model prog w) hp (classData C) cd := W.looks_clsIn X hcd
  rw [W.osa_eq, refuse_eq]
  refine wpAny_bind (wpAny_bind (I.type.at (wpAny_bind (hmr.at ?_))))
  rw [refs_pass TT _ hm]
  refine wpAny_pure (wpAny_bind (I.type.at (wpAny_bind ((W.looks_findIn X ha).at (wpAny_bind (L3.at ?_))))))
  show wpAny _ _ (storeInOwnDict (.ref x) (.ref C) (.str name tk) name v false) _ _ _
  obtain ⟨nm, bs, mro, ns, qn, hd, sn, sb, ab, col, del⟩ := cd
  dsimp only at hh
  subst hh
  unfold storeInOwnDict ownDictForStores
  repeat (first | with_reducible refine store_in_new ?_ ?_ | with_reducible refine wpAny_loadPart_at hx ?_ | with_reducible refine hcls.at ?_ | wp_step)
  · exact ⟨_, #[], _, (Heap.get?_update_ne _ _ _ _ hxs.symm).trans (Heap.get?_push_at rfl rfl), rfl, fun e he => absurd he (by simp), fun _ => rfl⟩
  · intro h' tk' hn' hs
    have hx₁ : (hp.push { cls := .type "dict", data := .dict #[] }).get? x = some { cls := .ref C, data := .fields fv } := Heap.get?_push_of_some _ hx
    refine hq h' tk' hp.objs.size (fun b o hb ho => ?_) (Nat.le_refl _) hxs.symm ?_ hn'
    · exact (hs.2 b (Nat.ne_of_lt (Heap.lt_size ho))).trans ((Heap.get?_update_ne _ _ _ _ hb).trans (Heap.get?_push_of_some _ ho))
    · exact (hs.2 x hxs).trans (Heap.get?_update_self _ hx₁ rfl)
end
/-! ### the text of __init__ -/
def iA (f : Str) (p1 p2 : Pos) : Arguments := { posonlyargs := [], args := [{ arg := "self", annotation := none, pos := p1 }, { arg := f, annotation := none, pos := p2 }], vararg := none, kwonlyargs := [], kw_defaults := [], kwarg := none, defaults := [] }
def iB (f : Str) (q1 q2 q3 q4 : Pos) : List Stmt := [.Assign [.Attribute (.Name "self" q1) f q2] (.Name f q3) q4]
def iS (f : Str) : Scope := { kind := .function, names := [(PySem.Str.ofString "self", .local), (f, .local)], isGenerator := false, isCoroutine := false, more := [] }
/-- what the written part says of the class x, at C, its field f, and of its __init__, at fI -/
structure LowTxt (K : Frag) (mg : Str → Option Value) (x f q : Str) (nw ini : String) (C fI : Addr) : Prop where
  gC : mg x = some (.ref C)
  tail : ∃ tail, TailOk nw ini tail ∧ ∃ nm q N bs bm sn sub ab col dd k0 k1 k2 k3 k5, K.lookup C = some (excClassObj nm q C N bs bm true sn sub ab col dd k0 k1 k2 k3 k5 nw) ∧ RefsT tail bm
  sa : findIn K (.ref C) "__setattr__" = some (some (.builtin "object.__setattr__"))
  ga : findIn K (.ref C) "__getattribute__" = some (some (.builtin "BaseException.__getattribute__"))
  gg : findIn K (.ref C) "__getattr__" = some none
  noN : findIn K (.ref C) f = some none
  iC : findIn K (.ref C) "__init__" = some (some (.ref fI))
  tC : typeIn K (.ref fI) = some (.type "function")
  kC : keepIn K (.ref C) = true
  exC : subIn K (.ref C) (.type "BaseException") = some true
  tyC : typeIn K (.ref C) = some (.type "type")
  hdC : hasDictIn K C = true
  te : exmOne K (.ref C) (.ref C) = some true
  fn : ∃ (oc : Value) (od : Option Addr) (doc pm : Value) (an : Option Addr) (cdv ct : Value) (osl : Array (Option Value)) (p1 p2 q1 q2 q3 q4 : Pos),
    K.lookup fI = some ⟨oc, od, .func (fnOf "__init__" q (iA f p1 p2) (iB f q1 q2 q3 q4) (iS f) .none .none doc pm an cdv ct), osl⟩ ∧ codeIn K cdv q = true
  hf : f = "value" ∨ f = "limit"
theorem one_size (v : Value) : [v].length ≤ sizeLine := by
  rw [sizeLine_eq]
  exact (by decide : 1 ≤ 16777216)
theorem ldC {M : Model} {s : Shared} {name : Str} {scope : Scope} {L a : Addr} {cd : Value} {m : Str → Option Value} {x : Str} {pos : Pos} {v : Value} {Q : Value → Shared → Prop} {A : Around} {E : Value → Shared → Prop} (hn : s.heap.Ns L m) (hv : m x = some v) (h : Q v s)
    (hk : scope.kind = .function) (hl : (envOfC name scope L a cd).kindOf x = some .local) (hd : (x == ("__debug__" : Str)) = false) :
    wpAny M A (eval (.Name x pos) (envOfC name scope L a cd)) Q E s := wpAny_Name (wpAny_loadName_local hk hl hn hv h) hd
/-- what __init__ leaves of a fresh exception at x -/
structure InitEnd (f : Str) (h h' : Heap) (x C dx t1 : Addr) (v : Value) : Prop where
  keep : ∀ b o, b ≠ x → h.get? b = some o → h'.get? b = some o
  obj : h'.get? x = some { cls := .ref C, dict := some dx, data := .fields #[.ref t1, .none, .none, .none, .bool false, .none] }
  dbig : h.objs.size ≤ dx
  dne : dx ≠ x
  ns : h'.Ns1 dx (fun y => if y = f then some v else none)
/-- a made one -/
structure OwnMade (f : Str) (h h' : Heap) (e C d : Addr) (v : Value) : Prop where
  keep : ∀ b o, h.get? b = some o → h'.get? b = some o
  new : h.objs.size ≤ e
  obj : ∃ oe vs, h'.get? e = some oe ∧ oe.cls = .ref C ∧ oe.dict = some d ∧ oe.data = .fields vs ∧ vs[1]? = some .none
  dbig : h.objs.size ≤ d
  dne : d ≠ e
  ns : h'.Ns1 d (fun y => if y = f then some v else none)
section
variable {prog : Program} {w : World} {A : Around} {E : Value → Shared → Prop} {R : Result → Shared → Prop} {s : Shared} {K : Frag} {mg : Str → Option Value} {x f q : Str} {nw ini : String} {C fI : Addr}
theorem low_init (T : LowTxt K mg x f q nw ini C fI) {x t0 : Addr} {v : Value} (X : K.In s.heap) (hlim : s.heap.NoLimit) (hx : s.heap.get? x = some (excO C t0)) (hnx : K.lookup x = none) (hroom : A.depth < recursionLimit)
    (hq : ∀ h' tk dx, InitEnd f s.heap h' x C dx t0 v → R (.ok (.ret .none)) { s with heap := h', toks := tk }) :
    codeAny (model prog w) A (.call (.ref fI) ⟨[.ref x, v], []⟩) R s := by
  obtain ⟨oc, od, doc, pm, an, cdv, ct, osl, p1, p2, q1, q2, q3, q4, ho, hcd⟩ := T.fn
  obtain ⟨tail, TT, nm, qq, N, bs, bm, sn, sub, ab, col, dd, k0, k1, k2, k3, k5, hC, hbm⟩ := T.tail
  have hcl : clsIn K C = some { name := nm, bases := bs, mro := .ref C :: bm, ns := N, qualname := qq, hasDict := true, slotNames := sn, subclasses := sub, abstract := ab, collection := col, hasDel := false } := by unfold clsIn; rw [hC] <;> rfl
  rcases T.hf with hf | hf <;> subst hf <;> (
  refine Att.call_fn (binds := [("self", .ref x), (_, v)]) X hlim ho hcd hroom (BindsTo.of_eq (by first | rfl | with_unfolding_all rfl)) (by first | rfl | decide | with_unfolding_all rfl) (fun s₁ IC => ?_) rfl rfl rfl
  obtain ⟨h₁, tk₁, rfl⟩ := IC.toInCall.same
  have k : ∀ b o, s.heap.get? b = some o → h₁.get? b = some o := IC.toInCall.keep
  have hn := IC.toInCall.ns
  have hxL : s.heap.objs.size ≠ x := Nat.ne_of_gt (Heap.lt_size hx)
  have X₁ : K.In h₁ := X.keeps k
  have hx₁ := k _ _ hx
  show wpAny _ _ (execs _ _) _ _ _
  refine wpAny_execs_cons (plainObj_wpAny_Assign_Attribute ?_)
  refine ldC (v := v) hn (by first | rfl | with_unfolding_all rfl | kernel_rfl) (ldC (v := .ref x) hn (by first | rfl | with_unfolding_all rfl | kernel_rfl) ?_ rfl (by first | rfl | with_unfolding_all rfl) (by decide)) rfl (by first | rfl | with_unfolding_all rfl) (by decide)
  refine set_plain X₁ (ox := excO C t0) (od := none) ⟨hx₁, rfl, rfl, trivial⟩ T.sa ?_
  refine exc_osaT TT X₁ hx₁ hcl (RefsT.ref hbm) rfl T.noN (fun h₃ tk₃ dx k₃ dn dne hx₃ hn₃ => ?_)
  show wpAny _ _ (execs _ _) _ _ _
  have z : s.heap.objs.size < h₁.objs.size := hn.lt
  exact wpAny_execs_nil (hq h₃ tk₃ dx ⟨fun b o hb e => k₃ b o hb (k b o e), hx₃, Nat.le_of_lt (Nat.lt_of_lt_of_le z dn), dne, hn₃⟩))
theorem low_made (T : LowTxt K mg x f q nw ini C fI) {v : Value} (X : K.In s.heap) (hlim : s.heap.NoLimit) (hroom : A.depth + 1 < recursionLimit)
    (hq : ∀ h' tk e d, OwnMade f s.heap h' e C d v → R (.ok (.ret (.ref e))) { s with heap := h', toks := tk }) :
    codeAny (model prog w) A (.call (.ref C) ⟨[v], []⟩) R s := by
  obtain ⟨tail, TT, nm, qq, N, bs, bm, sn, sub, ab, col, dd, k0, k1, k2, k3, k5, hC, hbm⟩ := T.tail
  obtain ⟨Bn, FB⟩ := TT.base
  obtain ⟨hp, g, dr, tk, os⟩ := s
  have k : ∀ b o, hp.get? b = some o → ((hp.push (kdv_tup [v])).push (excO C hp.objs.size)).get? b = some o := fun b o e => Heap.get?_push_of_some _ (Heap.get?_push_of_some _ e)
  have hget : ((hp.push (kdv_tup [v])).push (excO C hp.objs.size)).get? (hp.objs.size + 1) = some (excO C hp.objs.size) := by heap_get
  have hnx : K.lookup (hp.objs.size + 1) = none := by
    cases e : K.lookup (hp.objs.size + 1) with
    | none => rfl
    | some o =>
      have z : hp.get? (hp.objs.size + 1) = some o := X _ _ e
      exact absurd (Nat.lt_of_succ_lt (Heap.lt_size z)) (Nat.lt_irrefl _)
  refine call_own FB (fun X => refs_contains X hbm) (X _ _ hC) (looks_findIn X T.iC) (fun self => bind_fn X self T.tC) (one_size v) ?_
  refine low_init (s := ⟨(hp.push (kdv_tup [v])).push (excO C hp.objs.size), g, dr, tk, os⟩) T (X.keeps k) (hlim.keeps k) hget hnx ?_ fun h' tk' dx ⟨k', hx, dn, dne, hns⟩ => ?_
  · show A.depth + 1 < recursionLimit
    exact hroom
  · have old : ∀ b o, hp.get? b = some o → h'.get? b = some o := fun b o e => k' b o (Nat.ne_of_lt (Nat.lt_succ_of_lt (Heap.lt_size e))) (k b o e)
    have z : hp.objs.size + 1 + 1 ≤ dx := by
      first
        | (simpa only [Heap.size_push] using dn)
        | exact dn
        | (have q := dn; rw [Heap.size_push, Heap.size_push] at q; exact q)
    exact ⟨rfl, hq h' tk' (hp.objs.size + 1) dx ⟨old, Nat.le_succ _, ⟨_, _, hx, rfl, rfl, rfl, rfl⟩, Nat.le_trans (Nat.le_trans (Nat.le_succ _) (Nat.le_succ _)) z, dne, hns⟩⟩
end
end LowG
end PySem
namespace L2
open PySem PySem.Spec PyProof.Rows
theorem relO_lowG {v : V} {v' : Value} {g : Str} (r : RelV v v') (f : Str) : RelO (List.lookup f [(g, v)]) (if f = g then some v' else none) := by
  by_cases hw : f = g
  · subst hw
    rw [if_pos rfl]
    have q : List.lookup f [(f, v)] = some v := by simp [List.lookup]
    rw [q]
    exact r
  · rw [if_neg hw]
    have qw : (f == g) = false := by simpa using hw
    have q2 : List.lookup f [(g, v)] = none := by simp [List.lookup, qw]
    rw [q2]
    trivial
section
variable {X : Cx} {x f q : Str} {nw ini : String} {C fI : Addr}
/-- X(e) -/
def tMkLowG (f : Str) (C : Addr) (ta : TA) : St → Hp → XK → Prop := fun σ H Q => ta σ H fun vs H1 => ∃ v, vs = [v] ∧ ∀ d, H1 d = none → Q (.ref C) (some d) (upd H1 d (.xd [(f, v)]))
theorem pmk_lowG {a : Expr} {ta : TA} {p pos : Pos} {k : Nat} (T : PySem.LowG.LowTxt X.K X.mg x f q nw ini C fI) (hr : Room k X.A) (ha : PA X [a] ta) (hg : Gl X x) (hdb : (x == ("__debug__" : Str)) = false)
    (he : starEach (a :: []) X.env = (false, eval a X.env) :: starEach [] X.env) (hpl : (backTo pos (starEach [] X.env)).any (·.1) = false) :
    PMk X (.Call (.Name x p) [a] [] pos) (tMkLowG f C ta) := by
  intro pins s σ H Q I h
  refine wpAny_Call_Name_kw (ld_glob I hg T.gC ?_ hdb)
  refine PySem.W.callWith_K (h₀ := X.base) I.ok.mod.kin T.kC (thn (ha.run pos pins s σ H _ I h) fun us s1 hh => ?_) he hpl
  obtain ⟨vs, H1, I1, r1, v, ev, q1⟩ := hh
  subst ev
  refine ⟨I1.kIn, ?_⟩
  cases r1 with
  | cons rv rn =>
    rename_i v' us'
    cases rn
    show wpAny _ _ (call (.ref C) [v']) _ _ _
    have hlim := I1.nolimit
    obtain ⟨hp, g, dr, tk, os⟩ := s1
    refine wpAny_call (PySem.LowG.low_made T I1.kIn hlim (by have := hr.dp; omega) fun h' tk' e d M => ?_)
    show MkP X pins σ Q (.ref e) ⟨h', g, dr, tk', os⟩
    obtain ⟨oe, fv, hoe, hc, hd, hdat, h1⟩ := M.obj
    have hns := M.ns
    obtain ⟨G', g1, g2⟩ := restrict h' fun b => decide (b ≠ e)
    have gk : ∀ b, b ≠ e → G'.get? b = h'.get? b := fun b hb => g1 b (decide_eq_true hb)
    have ge : G'.get? e = none := g2 e (by simp)
    have old : ∀ b o, hp.get? b = some o → G'.get? b = some o := fun b o q => (gk b (Nat.ne_of_lt (Nat.lt_of_lt_of_le (Heap.lt_size q) M.new))).trans (M.keep b o q)
    have ob : ObjOk X.prog X.w (upd H1 d (.xd [(f, v)])) G' d (.xd [(f, v)]) :=
      ⟨_, hns.at (fun o q => (gk d M.dne).trans q), fun z => relO_lowG rv z⟩
    have J : Inv X pins σ (upd H1 d (.xd [(f, v)])) ⟨G', g, dr, tk', os⟩ := I1.laid (t' := tk') old M.dbig ob
    refine ⟨e, oe, fv, ⟨G', g, dr, tk', os⟩, _, .ref C, some d, rfl, J, fun b o q => ?_, ge, hoe, ⟨hc, hd⟩, hdat, h1, ?_, rfl, I1.bare, raises_own T.exC T.tyC, q1 d (I1.hok.fresh M.dbig)⟩
    · by_cases hb : b = e
      · have q' : G'.get? b = some o := q
        rw [hb, ge] at q'; cases q'
      · exact (gk b hb).symm.trans q
    · rw [upd_ne (Ne.symm M.dne)]
      exact I1.hok.fresh M.new
theorem xf_of (T : PySem.LowG.LowTxt X.K X.mg x f q nw ini C fI) : PySem.W.findIn X.K (.ref C) f = some none := T.noN
end
end L2

/-! EvT: a try of which each clause is told by its class and, it may be, a name; nothing passes by. -/
namespace Ev
open PySem PySem.Spec PyProof.Rows L2
abbrev Clz := Value × Option Nat × (Addr → Value → Option Addr → TS)
/-- the ends of a suite whose name in slot i is gone behind it -/
def gone (i : Nat) (D : Ends) : Ends := ⟨fun s h => D.nx (s.set i none) h, D.rt, fun s h => D.bk (s.set i none) h, fun s h => D.ct (s.set i none) h⟩
def wCls (K : PySem.W.Frag) (D : Ends) : List Clz → WX
  | [] => fun _ _ _ _ => False
  | (c, oi, ts) :: r => fun cls d s h => ∃ b, PySem.W.exmOne K cls c = some b ∧ (b = false → wCls K D r cls d s h) ∧
      (b = true → ∀ a, h a = none → match oi with | none => ts a cls d D s h | some i => ts a cls d (gone i D) (s.set i (some (.ref a))) h)
inductive ClsOk (X : Cx) : List ExceptHandler → List Clz → Prop
  | nil : ClsOk X [] []
  | bare {x : Str} {c : Value} {ts : Addr → Value → Option Addr → TS} {st : Stmt} {suite : List Stmt} {p1 p2 : Pos} {hs : List ExceptHandler} {l : List Clz} : Names X x c →
      (∀ (a : Addr) (ob : Obj) (cls : Value) (d : Option Addr) (pl : List (Addr × Obj)), Zc cls d ob → (∃ vs, ob.data = .fields vs) → PSs (X.suite a ((a, ob) :: pl)) (st :: suite) (ts a cls d)) → ClsOk X hs l → ClsOk X (.ExceptHandler (some (.Name x p1)) none (st :: suite) p2 :: hs) ((c, none, ts) :: l)
  | named {x y : Str} {i : Nat} {c : Value} {ts : Addr → Value → Option Addr → TS} {st : Stmt} {suite : List Stmt} {p1 p2 : Pos} {hs : List ExceptHandler} {l : List Clz} : Names X x c → X.N[i]? = some y → X.env.kindOf y = some .local →
      (∀ (a : Addr) (ob : Obj) (cls : Value) (d : Option Addr) (pl : List (Addr × Obj)), Zc cls d ob → (∃ vs, ob.data = .fields vs) → PSs (X.suite a ((a, ob) :: pl)) (st :: suite) (ts a cls d)) → ClsOk X hs l → ClsOk X (.ExceptHandler (some (.Name x p1)) (some y) (st :: suite) p2 :: hs) ((c, some i, ts) :: l)
section
variable {X : Cx} {body : List Stmt} {h₀ : ExceptHandler} {hds : List ExceptHandler} {l : List Clz} {pos : Pos} {tb : WX → TS}
theorem ps_try_cls (stk : X.stack = X.env :: X.outer) (frm : X.env.frame = some X.env.locals) (nd : X.N.Nodup)
    (hbody : ∀ (W : WX) (pl : List (Addr × Obj)) (xe : Value → Shared → Prop), Takes (X.tr pl xe) W → PassesOwn (model X.prog X.w) X.A X.env xe → PSs (X.tr pl xe) body (tb W))
    (hcl : ClsOk X (h₀ :: hds) l) : PS X (.Try body (h₀ :: hds) [] [] pos) (fun D s h => tb (wCls X.K D l) D s h) := by
  refine ⟨fun pins st s H D I h => wpAny_Try_except ?_⟩
  have ok := I.ok
  have frs_ : X.A.frames = some (X.env :: X.outer) := by rw [ok.frames, stk]
  let Xh : Value → Shared → Prop := fun u t1 => wpAny (model X.prog X.w) X.A (noteFrame u X.env) (fun _ t2 => wpAny (model X.prog X.w) X.A (setFlight u none) (fun _ t3 => wpAny (model X.prog X.w) X.A (handleBy u X.env (h₀ :: hds)) (SP X pins D) X.xe t3) X.xe t2) X.xe t1
  have caught : Takes (X.tr (X.pn ++ pins) Xh) (wCls X.K D l) := by
    rintro u t ⟨a, B, t0, pins', s', H', cls, d, rfl, J', nb, up, sky, na, os, ag, wish⟩
    have J := J'.ofTry ok
    have sky2 : Sky B (X.env :: X.outer) a (Zc cls d) X.env.locals t.heap := by rw [← stk]; exact sky
    show wpAny (model X.prog X.w) X.A (noteFrame (.ref a) X.env) _ _ t
    refine Sky.land Zc.steady frs_ frm sky2 fun ha fa ua => ?_
    have Ja : Inv X pins s' H' { t with heap := ha } := Inv.landed J nb fa.1 (up.trans ua) os ag
    obtain ⟨oa, va, ea, za, da⟩ := fa.there
    have nofr : a ∉ frs (X.env :: X.outer) := fun hm => by
      obtain ⟨_, o2, e2, q2⟩ := fa.2.2.1.mem hm
      rw [ea] at e2
      cases e2
      exact q2 _ da
    have nloc : a ≠ X.env.locals := fun z => nofr (List.mem_filterMap.mpr ⟨X.env, List.mem_cons_self, by rw [frm, z]⟩)
    have nfs : a ∉ X.fs := fun hm => by
      obtain ⟨e, h1, h2⟩ := List.mem_filterMap.mp hm
      exact nofr (List.mem_filterMap.mpr ⟨e, List.mem_cons_of_mem _ h1, h2⟩)
    have Sa := Ja.suite ea da na nloc nfs
    have ty : PySem.W.Looks (model X.prog X.w) ha (typeOf (.ref a)) cls := fun A Q E s k q => wpAny_typeOf_ref (k _ _ ea) (by rw [za.1]; exact q)
    have nameOf : ∀ {x : Str} {c : Value} {p1 : Pos} {Q : Value → Shared → Prop} {E : Value → Shared → Prop}, Names X x c → Q c { t with heap := ha } → wpAny (model X.prog X.w) (X.A.mark (some (.ref a))) (eval (.Name x p1) X.env) Q E { t with heap := ha } := fun hc q => by
      obtain ⟨hg, hdb, hm | ⟨hm, hv, hn⟩⟩ := hc
      · exact ld_glob (X := X.suite a ((a, oa) :: (X.pn ++ pins))) Sa hg hm q hdb
      · exact ld_blt (X := X.suite a ((a, oa) :: (X.pn ++ pins))) Sa hg hm hv q hn hdb
    have walk : ∀ {hs : List ExceptHandler} {l : List Clz}, ClsOk X hs l → wCls X.K D l cls d s' H' → wpAny (model X.prog X.w) X.A (handleBy (.ref a) X.env hs) (SP X pins D) X.xe { t with heap := ha } := fun {hs l} hk => by
      induction hk with
      | nil => exact fun w => w.elim
      | @bare x c ts st suite p1 p2 hs l hc hsu _ ih =>
        rintro ⟨b, hb, no, yes⟩
        refine wpAny_handleBy_cons (codeAny_handlers_test (nameOf hc ((PySem.W.exm_one (M := model X.prog X.w) Ja.kIn ty hb).here ?_))) (fun z => by cases z)
        cases b with
        | false => exact ih (no rfl)
        | true =>
          refine codeAny_handlers_suite (HandSPX.lands_againZ fa fun hb fb ub => ?_)
          obtain ⟨ob, vb, eb, zb, db⟩ := fb.there
          have Jb : Inv X pins s' H' { t with heap := hb } := Inv.landed J nb fb.1 ((up.trans ua).trans ub) os ag
          refine wpAny_mono ((hsu a ob cls d (X.pn ++ pins) zb ⟨_, db⟩).run [] _ _ H' _ (Jb.suite eb db na nloc nfs) (yes rfl a na)) (fun f t6 r6 => ?_) (fun _ _ z => z.elim)
          cases f with
          | ret u => exact let ⟨v, s6, h6, I6, q1, q2⟩ := r6; ⟨v, s6, h6, I6.unsuite ok, q1, q2⟩
          | next => exact let ⟨s6, h6, I6, q⟩ := r6; ⟨s6, h6, I6.unsuite ok, q⟩
          | brk => exact let ⟨s6, h6, I6, q⟩ := r6; ⟨s6, h6, I6.unsuite ok, q⟩
          | cont => exact let ⟨s6, h6, I6, q⟩ := r6; ⟨s6, h6, I6.unsuite ok, q⟩
      | @named x y i c ts st suite p1 p2 hs l hc hN hl hsu _ ih =>
        rintro ⟨b, hb, no, yes⟩
        refine wpAny_handleBy_cons (codeAny_handlers_test (nameOf hc ((PySem.W.exm_one (M := model X.prog X.w) Ja.kIn ty hb).here ?_))) (fun z => by cases z)
        cases b with
        | false => exact ih (no rfl)
        | true =>
          refine codeAny_handlers_suite_as (HandSPX.lands_againZ fa fun hb fb ub => ?_)
          obtain ⟨ob, vb, eb, zb, db⟩ := fb.there
          have Jb : Inv X pins s' H' { t with heap := hb } := Inv.landed J nb fb.1 ((up.trans ua).trans ub) os ag
          refine store_ok (X := X.suite a ((a, ob) :: (X.pn ++ pins))) (v := .ref a) (Jb.suite eb db na nloc nfs) nd hN (.inl hl) rfl (fun t5 I5 => ?_) (.inr hl)
          refine wpAny_mono ((hsu a ob cls d (X.pn ++ pins) zb ⟨_, db⟩).run [] t5 _ H' _ I5 (yes rfl a na)) (fun f t6 r6 => ?_) (fun _ _ z => z.elim)
          have fin : ∀ {s6 : L2.St} {h6 : Hp} {Q : Shared → Prop}, Inv (X.suite a ((a, ob) :: (X.pn ++ pins))) [] s6 h6 t6 → (∀ t7, Inv X pins (s6.set i none) h6 t7 → Q t7) → wpAny (model X.prog X.w) X.A (do bindName X.env y .none; unbindBehindTheSuite X.env y p2) (fun _ t7 => Q t7) X.xe t6 := fun I6 q => gone_ok (I6.unsuite ok) nd hN hl q
          cases f with
          | ret u => exact let ⟨v, s6, h6, I6, q1, q2⟩ := r6; fin I6 fun _ J7 => ⟨v, _, h6, J7, q1, q2⟩
          | next => exact let ⟨s6, h6, I6, q⟩ := r6; fin I6 fun _ J7 => ⟨_, h6, J7, q⟩
          | brk => exact let ⟨s6, h6, I6, q⟩ := r6; fin I6 fun _ J7 => ⟨_, h6, J7, q⟩
          | cont => exact let ⟨s6, h6, I6, q⟩ := r6; fin I6 fun _ J7 => ⟨_, h6, J7, q⟩
    exact walk hcl wish
  refine wpAny_mono ((hbody _ _ Xh caught PassesOwn.looking).run [] st s H D (I.toTry _) h) (fun f t1 r1 => ?_) (fun _ _ z => z)
  cases f with
  | ret u => exact let ⟨v, s6, h6, I6, q1, q2⟩ := r1; ⟨v, s6, h6, I6.ofTry ok, q1, q2⟩
  | next => exact let ⟨s6, h6, I6, q⟩ := r1; wpAny_execs_nil ⟨s6, h6, I6.ofTry ok, q⟩
  | brk => exact let ⟨s6, h6, I6, q⟩ := r1; ⟨s6, h6, I6.ofTry ok, q⟩
  | cont => exact let ⟨s6, h6, I6, q⟩ := r1; ⟨s6, h6, I6.ofTry ok, q⟩
end
end Ev

/-! Ev8: the syntax held against the text; what is known where an expression runs. -/
namespace Ev
open PySem PySem.Spec L2

/-! ### the check -/
structure Sx where
  N : List Str
  fns : List Str
  gs : List Str
  /-- exception classes, and what they keep -/
  xs : List (Str × Option Str)
  /-- lambdas are made here -/
  lam : Bool
  /-- the def that tells what a call met -/
  met : Option (Nat × MetD)
  /-- the defs that want to know that no repr runs around them -/
  gds : List Nat
  /-- no repr runs around -/
  gd : Bool
def visB (sc : Scope) (x : Str) : Bool := match sc.names.lookup x with
  | some .local => true | some .cell => true | some .free => true | _ => false
def locB (sc : Scope) (x : Str) : Bool := match sc.names.lookup x with
  | some .local => true | some .cell => true | _ => false
def gloB (sc : Scope) (x : Str) : Bool := match sc.names.lookup x with
  | some .globalImplicit => true | _ => false
def plainName (x : Str) : Bool := !(x == ("__debug__" : Str)) && !(x == ("__classdict__" : Str))
def notStar : Expr → Bool
  | .Starred .. => false
  | _ => true
def notSlice : Expr → Bool
  | .Slice .. => false
  | _ => true
def baseOk : Expr → Bool
  | .Call .. => false
  | _ => true
def notSet : Expr → Bool
  | .Set .. => false
  | _ => true
/-- a local name -/
def nameB (S : Sx) (sc : Scope) (i : Nat) (x : Str) : Bool := decide (S.N[i]? = some x) && visB sc x && plainName x
def bltName : Blt → Str
  | .len => "len" | .abs => "abs" | .min2 => "min" | .max2 => "max" | .mn => "min" | .mx => "max" | .sum => "sum" | .all => "all" | .any => "any"
  | .sorted => "sorted" | .int => "int" | .list => "list" | .tuple => "tuple" | .repr => "repr"
def mthNm : Mth → Str
  | .count => "count"
  | .index => "index"
def bkName : BK → Str × Str
  | .maxD => ("max", "default")
  | .minD => ("min", "default")
  | .sortR => ("sorted", "reverse")
def bltNames : List Str := ["len", "abs", "min", "max", "sum", "all", "any", "sorted", "int", "list", "tuple", "repr", "range", "enumerate", "zip", "isinstance", "bool", "str", "dict", "set"]
mutual
def chkT (S : Sx) (sc : Scope) (own : Str → Bool) : Tg → Expr → Bool
  | .name i, x => match x with
    | .Name y _ => decide (S.N[i]? = some y) && locB sc y && (own y || decide (sc.names.lookup y = some .local))
    | _ => false
  | .tup ts, x => match x with
    | .Tuple xs _ _ => chkTs S sc own ts xs && xs.all notStar
    | _ => false
def chkTs (S : Sx) (sc : Scope) (own : Str → Bool) : List Tg → List Expr → Bool
  | [], xs => match xs with | [] => true | _ => false
  | t :: ts, xs => match xs with | x :: ys => chkT S sc own t x && chkTs S sc own ts ys | _ => false
end
/-- what is walked: the expressions within -/
def itArgs (sc : Scope) (k : ItK) (tg x : Expr) : Option (List Expr) := match k with
  | .val => some [x]
  | .rng => match x with
    | .Call (.Name f _) ys [] _ => if f = "range" ∧ gloB sc f = true ∧ ys.all notStar = true ∧ (ys.length = 1 ∨ ys.length = 2) then some ys else none
    | _ => none
  | .enm => match tg, x with
    | .Tuple _ _ _, .Call (.Name f _) [y] [] _ => if f = "enumerate" ∧ gloB sc f = true ∧ notStar y = true then some [y] else none
    | _, _ => none
  | .zip => match tg, x with
    | .Tuple _ _ _, .Call (.Name f _) [y, z] [] _ => if f = "zip" ∧ gloB sc f = true ∧ notStar y = true ∧ notStar z = true then some [y, z] else none
    | _, _ => none
/-- new tuples are walked -/
def ItK.w : ItK → Bool
  | .val => false | .rng => false | .enm => true | .zip => true
def isTupT : Tg → Bool
  | .name _ => false | .tup _ => true
theorem kind_tup {S : Sx} {sc sc' : Scope} {own : Str → Bool} {k : ItK} {tg : Tg} {tg' x : Expr} {ys : List Expr} (h : itArgs sc k tg' x = some ys) (h2 : chkT S sc' own tg tg' = true) : k.w = true → isTupT tg = true := fun e => by
  cases tg with
  | tup ts => rfl
  | name i =>
    simp only [chkT] at h2
    split at h2
    case h_2 => cases h2
    cases k <;> first | (cases e; done) | (simp [itArgs] at h)
/-- no parameters -/
def lamPs (ps : Arguments) : Bool := ps.posonlyargs.isEmpty && ps.args.isEmpty && ps.vararg.isNone && ps.kwonlyargs.isEmpty && ps.kw_defaults.isEmpty && ps.kwarg.isNone && ps.defaults.isEmpty
/-- one parameter -/
def lamPs1 (z : Str) (ps : Arguments) : Bool := ps.posonlyargs.isEmpty && (match ps.args with | [a] => decide (a.arg = z) | _ => false) && ps.vararg.isNone && ps.kwonlyargs.isEmpty && ps.kw_defaults.isEmpty && ps.kwarg.isNone && ps.defaults.isEmpty
def lamSB1 (sc scope : Scope) (z : Str) : Bool :=
  decide (scope.kind = .function) && !scope.isCoroutine && !scope.isGenerator && decide (scope.names.lookup z = some .local) && scope.names.all fun y => (!decide (y.2 = .local) || decide (y.1 = z)) && !decide (y.2 = .cell) && (!decide (y.2 = .free) || decide (sc.names.lookup y.1 = some .cell) || decide (sc.names.lookup y.1 = some .free))
mutual
def chk (S : Sx) (sc : Scope) : E → Expr → Bool
  | .cint i, x => match x with | .Constant (.int j) _ _ => decide (i = j) | _ => false
  | .cbl b, x => match x with | .Constant (.bool c) _ _ => b == c | _ => false
  | .cnon, x => match x with | .Constant .none _ _ => true | _ => false
  | .cstr z, x => match x with | .Constant (.str y) _ _ => decide (z = y) | _ => false
  | .var i, x => match x with | .Name y _ => nameB S sc i y | _ => false
  | .mv i, x => match x with | .Name y _ => nameB S sc i y | _ => false
  | .peek i, x => match x with | .Name y _ => nameB S sc i y | _ => false
  | .glb g, x => match x with | .Name y _ => decide (S.gs[g]? = some y) && gloB sc y && plainName y | _ => false
  | .bin op a b, x => match x with | .BinOp l o r _ => decide (o = op) && chk S sc a l && chk S sc b r | _ => false
  | .neg a, x => match x with | .UnaryOp .USub y _ => chk S sc a y | _ => false
  | .not a, x => match x with | .UnaryOp .Not y _ => chk S sc a y | _ => false
  | .bop op es, x => match x with | .BoolOp o ys _ => decide (o = op) && chks S sc es ys && !ys.isEmpty | _ => false
  | .cmp op a b, x => match x with | .Compare l [o] [r] _ => decide (o = op) && chk S sc a l && chk S sc b r && notSet r | _ => false
  | .chain o1 o2 a b d, x => match x with | .Compare l [p1, p2] [m, r] _ => decide (p1 = o1) && decide (p2 = o2) && chk S sc a l && chk S sc b m && chk S sc d r && notSet m && notSet r | _ => false
  | .ite t a b, x => match x with | .IfExp t' a' b' _ => chk S sc t t' && chk S sc a a' && chk S sc b b' | _ => false
  | .tup es, x => match x with | .Tuple ys _ _ => chkA S sc es ys | _ => false
  | .lst es, x => match x with | .List ys _ => chkA S sc es ys | _ => false
  | .dct0, x => match x with | .Dict [] [] _ => true | _ => false
  | .star _, _ => false
  | .bk k a d, x => match x with | .Call (.Name f _) [y] [⟨some nm, z, _⟩] _ => decide (f = (bkName k).1) && decide (nm = (bkName k).2) && gloB sc f && chk S sc a y && notStar y && chk S sc d z | _ => false
  | .disp1 k e, x => match x with | .Dict [some y] [z] _ => chk S sc k y && chk S sc e z | _ => false
  | .inv a, x => match x with | .UnaryOp .Invert y _ => chk S sc a y | _ => false
  | .idx a i, x => match x with | .Subscript o k _ => chk S sc a o && chk S sc i k && notSlice k | _ => false
  | .slcL a lo, x => match x with | .Subscript o (.Slice (some l) none none _) _ => chk S sc a o && chk S sc lo l | _ => false
  | .slcH a hi, x => match x with | .Subscript o (.Slice none (some h) none _) _ => chk S sc a o && chk S sc hi h | _ => false
  | .slcLH a lo hi, x => match x with | .Subscript o (.Slice (some l) (some h) none _) _ => chk S sc a o && chk S sc lo l && chk S sc hi h | _ => false
  | .rev a, x => match x with | .Subscript o (.Slice none none (some (.UnaryOp .USub (.Constant (.int j) _ _) _)) _) _ => decide (j = 1) && chk S sc a o | _ => false
  | .lens a, x => match x with | .Call (.Name f _) [.Call (.Name g _) [y] [] _] [] _ => decide (f = "len") && decide (g = "set") && gloB sc f && gloB sc g && chk S sc a y && notStar y | _ => false
  | .isi T a, x => match x with | .Call (.Name f _) [y, .Name t _] [] _ => decide (f = "isinstance") && chk S sc a y && decide (t = PySem.Str.ofString T.name) && gloB sc f && gloB sc t && notStar y | _ => false
  | .blt b es, x => match x with | .Call (.Name f _) ys [] _ => decide (f = bltName b) && gloB sc f && chks S sc es ys && ys.all notStar && !ys.isEmpty | _ => false
  | .lrng es, x => match x with | .Call (.Name f _) [.Call (.Name g _) ys [] _] [] _ => decide (f = "list") && decide (g = "range") && gloB sc f && gloB sc g && chks S sc es ys && ys.all notStar && (decide (ys.length = 1) || decide (ys.length = 2)) | _ => false
  | .mth m o es, x => match x with
    | .Call (.Attribute o' nm apos) ys [] cpos => decide (nm = mthNm m) && chk S sc o o' && chks S sc es ys && ys.all notStar && baseOk o' && decide (apos.endLine = cpos.line) && decide (ys.length = 1)
    | _ => false
  | .callG f es, x => match x with | .Call (.Name y _) ys [] _ => decide (S.fns[f]? = some y) && S.gds.contains f && S.gd && gloB sc y && plainName y && chks S sc es ys && ys.all notStar && !ys.isEmpty | _ => false
  | .reprD e, x => match x with | .Call (.Name y _) [a] [] _ => decide (y = "repr") && S.gd && gloB sc y && chk S sc e a && notStar a | _ => false
  | .call f es, x => match x with | .Call (.Name y _) ys [] _ => decide (S.fns[f]? = some y) && !S.gds.contains f && gloB sc y && plainName y && chks S sc es ys && ys.all notStar && !ys.isEmpty | _ => false
  | .callv i es, x => match x with | .Call (.Name y _) ys [] _ => nameB S sc i y && chks S sc es ys && ys.all notStar && !ys.isEmpty | _ => false
  | .met m d f es, x => match x with
    | .Call (.Name y _) [.Lambda ps b ls _] [] _ => S.lam && decide (S.met = some (m, d)) && (S.gd || !d.hasRep) && decide (S.fns[m]? = some y) && gloB sc y && lamPs ps && LamX.lamSB sc ls && (match b with
      | .Call (.Name z _) ys [] _ => decide (S.fns[f]? = some z) && !S.gds.contains f && gloB ls z && plainName z && chks { S with lam := false, gd := false } ls es ys && ys.all notStar && !ys.isEmpty
      | _ => false)
    | _ => false
  | .metv m d i es, x => match x with
    | .Call (.Name y _) [.Lambda ps b ls _] [] _ => S.lam && decide (S.met = some (m, d)) && (S.gd || !d.hasRep) && decide (S.fns[m]? = some y) && gloB sc y && lamPs ps && LamX.lamSB sc ls && (match b with
      | .Call (.Name z _) ys [] _ => nameB S ls i z && chks { S with lam := false, gd := false } ls es ys && ys.all notStar && !ys.isEmpty
      | _ => false)
    | _ => false
  | .lc own elt tg k its ifs, x => match x with
    | .ListComp elt' [⟨tg', it', ifs', a⟩] scope _ => decide (a = 0) && blkC S.N sc scope own && chkT S (relS scope sc) (fun y => scope.names.lookup y == some .cell) tg tg' && chk S (relS scope sc) elt elt' && chks S (relS scope sc) ifs ifs'
        && decide (ifs'.length ≤ 1) && (tgSlots tg).all (fun i => (own.map (·.2)).contains i) && notSet it' && (match itArgs sc k tg' it' with | some ys => chks S sc its ys | none => false)
    | _ => false
  | .dc own ek el tg k its ifs, x => match x with
    | .DictComp kx vx [⟨tg', it', ifs', a⟩] scope _ => decide (a = 0) && blkC S.N sc scope own && chkT S (relS scope sc) (fun y => scope.names.lookup y == some .cell) tg tg' && chk S (relS scope sc) ek kx && chk S (relS scope sc) el vx && chks S (relS scope sc) ifs ifs'
        && decide (ifs'.length ≤ 1) && (tgSlots tg).all (fun i => (own.map (·.2)).contains i) && notSet it' && (match itArgs sc k tg' it' with | some ys => chks S sc its ys | none => false)
    | _ => false
  | .lc2 own elt tg k its ifs tg1 k1 its1 ifs1, x => match x with
    | .ListComp elt' [⟨tg', it', ifs', a⟩, ⟨tg1', it1', ifs1', a1⟩] scope _ => decide (a = 0) && decide (a1 = 0) && blkC S.N sc scope own && chkT S (relS scope sc) (fun y => scope.names.lookup y == some .cell) tg tg' && chkT S (relS scope sc) (fun y => scope.names.lookup y == some .cell) tg1 tg1' && chk S (relS scope sc) elt elt'
        && chks S (relS scope sc) ifs ifs' && decide (ifs'.length ≤ 1) && chks S (relS scope sc) ifs1 ifs1' && decide (ifs1'.length ≤ 1) && (tgSlots tg).all (fun i => (own.map (·.2)).contains i) && (tgSlots tg1).all (fun i => (own.map (·.2)).contains i) && notSet it' && notSet it1'
        && (match itArgs sc k tg' it' with | some ys => chks S sc its ys | none => false) && (match itArgs (relS scope sc) k1 tg1' it1' with | some ys => chks S (relS scope sc) its1 ys | none => false)
    | _ => false
  | .sortK i key k its, x => match x with
    | .Call (.Name f _) [y] [⟨some nm, .Lambda ps b ls _, _⟩] _ => S.lam && decide (f = "sorted") && decide (nm = "key") && gloB sc f && notStar y && (match S.N[i]? with | some z => lamPs1 z ps && lamSB1 sc ls z | none => false) && chk { S with lam := false, gd := false } ls key b
        && (k == .val || k == .rng) && (match itArgs sc k y y with | some ys => chks S sc its ys | none => false)
    | _ => false
  | .bestK mx i key e, x => match x with
    | .Call (.Name f _) [y] [⟨some nm, .Lambda ps b ls _, _⟩] _ => S.lam && decide (f = if mx then "max" else "min") && decide (nm = "key") && gloB sc f && notStar y && (match S.N[i]? with | some z => lamPs1 z ps && lamSB1 sc ls z | none => false) && chk { S with lam := false, gd := false } ls key b
        && chk S sc e y
    | _ => false
  | .dcE own k its, x => match x with
    | .DictComp _ _ (⟨tg', it', _, a⟩ :: _) scope _ => decide (a = 0) && blkC S.N sc scope own && notSet it' && (match itArgs sc k tg' it' with | some ys => chks S sc its ys | none => false)
    | _ => false
def chks (S : Sx) (sc : Scope) : List E → List Expr → Bool
  | [], xs => match xs with | [] => true | _ => false
  | e :: es, xs => match xs with | x :: ys => chk S sc e x && chks S sc es ys | _ => false
/-- the items of a display, with stars -/
def chkA (S : Sx) (sc : Scope) : List E → List Expr → Bool
  | [], xs => match xs with | [] => true | _ => false
  | .star e :: es, xs => match xs with | .Starred x _ :: ys => chk S sc e x && chkA S sc es ys | _ => false
  | e :: es, xs => match xs with | x :: ys => notStar x && chk S sc e x && chkA S sc es ys | _ => false
end
theorem visB_ok {sc : Scope} {x : Str} (h : visB sc x = true) : Vis sc x := by
  unfold visB at h
  split at h
  · exact .inl (by assumption)
  · exact .inr (.inl (by assumption))
  · exact .inr (.inr (by assumption))
  · cases h
theorem locB_ok {sc : Scope} {x : Str} (h : locB sc x = true) : Loc sc x := by
  unfold locB at h
  split at h
  · exact .inl (by assumption)
  · exact .inr (by assumption)
  · cases h
theorem gloB_ok {X : Cx} {sc : Scope} {x : Str} (e : X.env.scope = sc) (h : gloB sc x = true) : Gl X x := by
  unfold gloB at h
  split at h
  · unfold Gl Env.kindOf; rw [e]; assumption
  · cases h
theorem plainName_ok {x : Str} (h : plainName x = true) : (x == ("__debug__" : Str)) = false ∧ (x == ("__classdict__" : Str)) = false := by
  unfold plainName at h
  simpa using h
theorem star_cons {e : Expr} {es : List Expr} {env : PySem.Env} (h : notStar e = true) : starEach (e :: es) env = (false, eval e env) :: starEach es env := by
  cases e <;> first | rfl | cases h
theorem star_plain {pos : Pos} {env : PySem.Env} : ∀ {es : List Expr}, es.all notStar = true → (backTo pos (starEach es env)).any (·.1) = false
  | [], _ => rfl
  | e :: es, h => by
    rw [List.all_cons, Bool.and_eq_true] at h
    rw [star_cons h.1]
    have := star_plain (pos := pos) (env := env) h.2
    simpa [backTo] using this
theorem notSet_marks {op : CmpOp} {b : Expr} (h : notSet b = true) : behindInMarks op b = false := by
  cases b <;> first | rfl | cases h
theorem notSet_folded {b : Expr} {env : PySem.Env} (h : notSet b = true) : ∀ x, foldedSetIterable b env x = pure x := by
  intro x
  cases b <;> first | rfl | cases h
theorem notSlice_ix {b : Expr} (h : notSlice b = true) : PlainIx b := by
  intro o i
  cases b <;> first | rfl | cases h
theorem baseOk_base {o : Expr} {m : Str} {env : PySem.Env} (h : baseOk o = true) : attributeBase o m env (eval o env) = eval o env := by
  cases o <;> first | rfl | cases h

/-! ### what is known where an expression runs -/
/-- the lent arguments' places -/
inductive ArgsR (K : Frag) (F H : Hp) (lent : List Nat) : Nat → List V → List PV → List Addr → Prop
  | nil {k : Nat} : ArgsR K F H lent k [] [] []
  | val {k : Nat} {v : V} {vs : List V} {d : PV} {ds : List PV} {as : List Addr} : lent.contains k = false → Rp K F v d → ArgsR K F H lent (k + 1) vs ds as → ArgsR K F H lent k (v :: vs) (d :: ds) as
  | lent {k : Nat} {a : Addr} {vs : List V} {d : PV} {ds : List PV} {as : List Addr} : lent.contains k = true → F a = none → OwnR K F H a d → ArgsR K F H lent (k + 1) vs ds as → ArgsR K F H lent k (.ref a :: vs) (d :: ds) (a :: as)
/-- behind a call: as, what was lent, holds os -/
structure Post (K : Frag) (γ : Gt) (F H : Hp) (as : List Addr) (os : List PV) (r : Rv) (v : V) (F' H' : Hp) : Prop where
  ff : Sub F F'
  fh : Sub F' H'
  keep : ∀ a o, H a = some o → (∀ ps, o ≠ .tbl ps) → a ∉ as → H' a = some o
  new : ∀ a o, F' a = some o → F a = some o ∨ noTb H a = none
  outs : Paired (fun a o => OwnR K F' H' a o) as os
  res : ResR K (noTb H) F' H' v r
  tab : LamX.Tabs γ.tb H'
  ftb : ∀ a ps, F' a ≠ some (.tbl ps)
/-- an exception in the air: class number k, what it keeps -/
def XR (K : Frag) (γ : Gt) (F H : Hp) (cls : Value) (d : Option Addr) (k : Nat) (v : PV) : Prop := ∃ C fo, γ.ex[k]? = some (C, fo) ∧ cls = .ref C ∧ match fo with
  | none => d = none ∧ v = .none
  | some x => ∃ dd y, d = some dd ∧ H dd = some (.xd [(x, y)]) ∧ Rp K F y v
/-- behind a call that raised -/
structure PostX (K : Frag) (γ : Gt) (F H : Hp) (k : Nat) (v : PV) (cls : Value) (d : Option Addr) (F' H' : Hp) : Prop where
  ff : Sub F F'
  fh : Sub F' H'
  keep : ∀ a o, H a = some o → (∀ ps, o ≠ .tbl ps) → H' a = some o
  new : ∀ a o, F' a = some o → F a = some o ∨ noTb H a = none
  tab : LamX.Tabs γ.tb H'
  ftb : ∀ a ps, F' a ≠ some (.tbl ps)
  exc : XR K γ F' H' cls d k v
/-- a def's promise: what the evaluator tells -/
def spF (K : Frag) (γ : Gt) (p : Prg) (n f : Nat) : Sp := fun vs H Q E => ∃ F args as, Sub F H ∧ LamX.Tabs γ.tb H ∧ (∀ a ps, F a ≠ some (.tbl ps)) ∧ ArgsR K F H (p.lent f) 0 vs args as ∧ as.Nodup ∧
  ((∃ r os, p.Φ n f args = some (r, os) ∧ ∀ v F' H', Post K γ F H as os r v F' H' → Q v H') ∨
   (as = [] ∧ ∃ k v, p.Ξ n f args = some (k, v) ∧ ∀ cls d F' H', PostX K γ F H k v cls d F' H' → E cls d H'))
/-- what is known of an exception class of the text -/
inductive XOk (K : Frag) (mg : Str → Option Value) (x : Str) : Addr → Option Str → Prop
  | plain {C : Addr} {B nw ini : String} {tail : List Value} : ExcBaseFacts B nw ini tail → PySem.W.excIn K C tail nw = true → mg x = some (.ref C) → PySem.W.keepIn K (.ref C) = true → PySem.W.subIn K (.ref C) (.type "BaseException") = some true → PySem.W.typeIn K (.ref C) = some (.type "type") → XOk K mg x C none
  | low {C fI : Addr} {f q : Str} {nw ini : String} : PySem.LowG.LowTxt K mg x f q nw ini C fI → XOk K mg x C (some f)
/-- a def's promise where no repr runs around -/
structure FnG (P : Program) (w : World) (K : Frag) (mg : Str → Option Value) (base : Heap) (C : CXT) (k : Nat) (f : Addr) (fd : FuncData) (ps : List Str) (sp : Sp) : Prop where
  len : ∀ vs H Q E, sp vs H Q E → vs.length = ps.length
  run : ∀ (A : Around) (outer : List PySem.Env) (s : Shared) (H : Hp) (args : Args) (us : List Value) (vs : List V) (Q : VK) (E : XK), A.guards = some [] → Room k A → Env0 P w K mg base A outer s H → BindsTo s fd args (ps.zip us) → Vals vs us → sp vs H Q E →
    codeAny (model P w) A (.call (.ref f) args) (CR C outer P w H s Q E) s
/-- where lambdas are made: the code object and its table -/
def LamOk (X : Cx) (γ : Gt) : Prop := ∃ c P, X.env.code = .ref c ∧ LamX.TabB X.base X.mg c P ∧ (P, X.env.qual ++ "<lambda>") ∈ γ.tb ∧ ∀ q ∈ γ.tb, q.1 = P → q.2 = X.env.qual ++ "<lambda>"
/-! ### the def that tells what a call met -/
def strsB : List Str → List Expr → Bool
  | [], xs => match xs with | [] => true | _ => false
  | z :: zs, xs => match xs with | .Constant (.str y) _ _ :: ys => decide (z = y) && strsB zs ys | _ => false
def metH (N : List Str) (sc : Scope) (xs : List (Str × Option Str)) : List (Nat × HR) → List ExceptHandler → Bool
  | [], hs => match hs with | [] => true | _ => false
  | (j, r) :: l, hs => match hs with
    | .ExceptHandler (some (.Name x _)) nm [.Return (some e) _] _ :: hs' => gloB sc x && plainName x && metH N sc xs l hs' && (match xs[j]? with
      | some (y, fo) => decide (x = y) && (match r with
        | .str z => decide (nm = none) && (match e with | .Constant (.str y) _ _ => decide (z = y) | _ => false)
        | .strs zs => decide (nm = none) && decide (zs.length ≤ 9) && (match e with | .Tuple ys _ _ => strsB zs ys && ys.all notStar | _ => false)
        | .fld zs => decide (zs.length ≤ 9) && (match nm with
          | some y => decide (N[1]? = some y) && decide (sc.names.lookup y = some .local) && plainName y && (match e with
            | .Tuple ys _ _ => strsB zs (ys.take zs.length) && ys.all notStar && (match ys.drop zs.length with
              | [.Attribute (.Name y' _) f _] => decide (y' = y) && decide (fo = some f)
              | _ => false)
            | _ => false)
          | none => false)
        | .rep a b => (match nm with
          | some y => decide (N[1]? = some y) && decide (sc.names.lookup y = some .local) && plainName y && (match e with
            | .Tuple [.Constant (.str a') _ _, .BinOp (.Constant (.str b') _ _) .Add (.Call (.Name r _) [.Attribute (.Name y' _) f _] [] _) _] _ _ => decide (a' = a) && decide (b' = b) && decide (r = "repr") && gloB sc r && decide (y' = y) && decide (fo = some f)
            | _ => false)
          | none => false)
        | .never b => match nm with
          | some y => b && decide (N[1]? = some y) && decide (sc.names.lookup y = some .local)
          | none => !b)
      | none => false)
    | _ => false
/-- the body -/
def metB (N : List Str) (sc : Scope) (xs : List (Str × Option Str)) (d : MetD) : List Stmt → Bool
  | [.Try [.Return (some (.Tuple [.Constant (.str t) _ _, .Call (.Name a _) [] [] _] _ _)) _] (h :: hs) [] [] _] => decide (t = d.told) && decide (N[0]? = some a) && visB sc a && plainName a && metH N sc xs d.hs (h :: hs)
  | _ => false
structure MetOk (γ : Gt) (fns : List Str) (xs : List (Str × Option Str)) (m : Nat) (d : MetD) (K : Frag) (mg : Str → Option Value) (base : Heap) : Prop where
  ex : ∃ x N a st fa fd, fns[m]? = some x ∧ plainName x = true ∧ mg x = some (.ref fa) ∧ Fun K x x st fa fd ∧ Binds K fd [a] [] ∧ FnScope N [a] (defScope st) ∧ N[0]? = some a ∧ N.Nodup ∧ metB N (defScope st) xs d (defBody st) = true
structure XC (p : Prg) (γ : Gt) (n : Nat) (S : Sx) (X : Cx) : Prop where
  calm : X.calm = true
  nd : X.N.Nodup
  hN : X.N = S.N
  room_ : Room (5 * n + if S.lam then 4 else 0) X.A
  blt : ∀ x ∈ bltNames, X.mg x = none
  gs : ∀ (g : Nat) (x : Str) (d : PV), S.gs[g]? = some x → p.G[g]? = some d → ∃ v u, X.mg x = some u ∧ RelV v u ∧ ∀ H : Hp, Rp X.K H v d
  fn : ∀ (f : Nat) (x : Str), S.fns[f]? = some x → S.gds.contains f = false → ∃ fa fd ps, X.mg x = some (.ref fa) ∧ PySem.W.keepIn X.K (.ref fa) = true ∧ Binds X.K fd ps [] ∧ FnOk X.prog X.w X.K X.mg X.base (CX X.prog X.w) (5 * n) fa fd ps (spF X.K γ p n f)
  fs : ∀ (f : Nat) (x : Str), S.fns[f]? = some x → S.gds.contains f = false → ∃ fa, X.mg x = some (.ref fa) ∧ γ.fs f = some fa
  fnG : ∀ (f : Nat) (x : Str), S.fns[f]? = some x → S.gds.contains f = true → ∃ fa fd ps, X.mg x = some (.ref fa) ∧ PySem.W.keepIn X.K (.ref fa) = true ∧ Binds X.K fd ps [] ∧ FnG X.prog X.w X.K X.mg X.base (CX X.prog X.w) (5 * n) fa fd ps (spF X.K γ p n f)
  grd : S.gd = true → X.A.guards = some []
  xs : ∀ (k : Nat) (y : Str) (fo : Option Str), S.xs[k]? = some (y, fo) → ∃ C, γ.ex[k]? = some (C, fo) ∧ XOk X.K X.mg y C fo
  lam : S.lam = true → LamOk X γ
  met : ∀ (m : Nat) (d : MetD), S.met = some (m, d) → MetOk γ S.fns S.xs m d X.K X.mg X.base
  exm : ∀ (k j : Nat) (C D : Addr) (fo go : Option Str), γ.ex[k]? = some (C, fo) → γ.ex[j]? = some (D, go) → PySem.W.exmOne X.K (.ref C) (.ref D) = some (decide (k = j))
  fsN : ∀ (f : Nat) (fa : Addr), γ.fs f = some fa → ∃ x, S.fns[f]? = some x ∧ S.gds.contains f = false
section
variable {p : Prg} {γ : Gt} {n : Nat} {S : Sx} {X : Cx}
theorem XC.room (c : XC p γ n S X) : Room (5 * n) X.A := c.room_.mono (Nat.le_add_right _ _)
theorem XC.roomL (c : XC p γ n S X) (h : S.lam = true) : Room (5 * n + 4) X.A := by have := c.room_; rw [h] at this; exact this
theorem XC.u (c : XC p γ n S X) : X.A.units + 200 < cLine := by have := c.room.un; omega
theorem XC.blk (c : XC p γ n S X) (s : Shared) (H : Hp) (scope : Scope) (cenv : PySem.Env) (fp : List Addr) (h1 : cenv.code = X.env.code) (h2 : cenv.qual = X.env.qual) : XC p γ n S (X.blk s H scope cenv fp) :=
  ⟨c.calm, c.nd, c.hN, c.room_, c.blt, c.gs, c.fn, c.fs, c.fnG, c.grd, c.xs, fun h => by
    obtain ⟨cc, P, a1, a2, a3, a4⟩ := c.lam h
    exact ⟨cc, P, h1.trans a1, a2, by show (P, cenv.qual ++ _) ∈ _; rw [h2]; exact a3, fun q hq e => by show q.2 = cenv.qual ++ _; rw [h2]; exact a4 q hq e⟩, c.met, c.exm, c.fsN⟩
/-! ### readings -/
/-- an expression that the evaluator runs -/
def tU (K : Frag) (γ : Gt) (c : Cf) (e : E) : TE := fun σ H Q => ∃ B s r s', ev c e s = .ok r s' ∧ ∃ F, EnvR K γ B F H σ s ∧ ∀ v H' F', Sub F F' → EnvR K γ B F' H' σ s' → RvR K B F' H' σ s' v r → Q v H'
inductive RvFs (K : Frag) (F : Hp) (σ : L2.St) : List V → List Rv → Prop
  | nil : RvFs K F σ [] []
  | cons {v : V} {vs : List V} {r : Rv} {rs : List Rv} : RvF K F σ v r → RvFs K F σ vs rs → RvFs K F σ (v :: vs) (r :: rs)
theorem RvFs.sub {K : Frag} {F F' : Hp} {σ : L2.St} (s : Sub F F') : ∀ {vs : List V} {rs : List Rv}, RvFs K F σ vs rs → RvFs K F' σ vs rs
  | _, _, .nil => .nil
  | _, _, .cons h t => .cons (RvF.sub h s) (RvFs.sub s t)
theorem RvFs.append {K : Frag} {F : Hp} {σ : L2.St} : ∀ {vs ws : List V} {rs qs : List Rv}, RvFs K F σ vs rs → RvFs K F σ ws qs → RvFs K F σ (vs ++ ws) (rs ++ qs)
  | _, _, _, _, .nil, s => s
  | _, _, _, _, .cons r t, s => .cons r (RvFs.append t s)
theorem RvFs.ofAll {K : Frag} {F : Hp} {σ : L2.St} : ∀ {vs : List V} {ds : List PV}, RpAll K F vs ds → RvFs K F σ vs (ds.map .frz)
  | _, _, .nil => .nil
  | _, _, .cons h t => .cons h (RvFs.ofAll t)
def tUs (K : Frag) (γ : Gt) (c : Cf) (es : List E) : TA := fun σ H Q => ∃ B s rs s', evs c es s = .ok rs s' ∧ ∃ F, EnvR K γ B F H σ s ∧ ∀ vs H' F', Sub F F' → EnvR K γ B F' H' σ s' → RvFs K F' σ vs rs → Q vs H'
def tUA (K : Frag) (γ : Gt) (c : Cf) (es : List E) : TA := fun σ H Q => ∃ B s rs s', evA c es s = .ok rs s' ∧ ∃ F, EnvR K γ B F H σ s ∧ ∀ vs H' F', Sub F F' → EnvR K γ B F' H' σ s' → RvFs K F' σ vs rs → Q vs H'
/-- a test that the evaluator runs -/
def tUT (K : Frag) (γ : Gt) (c : Cf) (e : E) : TT := fun σ H Q => ∃ B s r s' d b, ev c e s = .ok r s' ∧ opd r s' = .ok d s' ∧ truth d = some b ∧ ∃ F, EnvR K γ B F H σ s ∧ ∀ H' F', Sub F F' → EnvR K γ B F' H' σ s' → Q b H'
theorem tU_good {K : Frag} {c : Cf} {e : E} {B : Bs} {s s' : Env} {r : Rv} {F H : Hp} {σ : L2.St} {Q : VK} (h : ev c e s = .ok r s') (en : EnvR K γ B F H σ s)
    (k : ∀ v H' F', Sub F F' → EnvR K γ B F' H' σ s' → RvF K F' σ v r → Q v H') : tU K γ c e σ H Q :=
  ⟨B, s, r, s', h, F, en, fun v H' F' s1 e1 r1 => by
    obtain ⟨F2, s2, e2, r2⟩ := r1.good e1
    exact k v H' F2 (s1.trans s2) e2 r2⟩
theorem PE.imp {x : Expr} {t t' : TE} (h : PE X x t) (i : ∀ σ H Q, t' σ H Q → t σ H Q) : PE X x t' := ⟨fun pins s σ H Q I q => h.run pins s σ H Q I (i _ _ _ q)⟩
theorem PS.imp {X : Cx} {x : Stmt} {t t' : TS} (h : PS X x t) (i : ∀ D σ H, t' D σ H → t D σ H) : PS X x t' := ⟨fun pins s σ H D I q => h.run pins s σ H D I (i _ _ _ q)⟩
theorem PSs.imp {X : Cx} {x : List Stmt} {t t' : TS} (h : PSs X x t) (i : ∀ D σ H, t' D σ H → t D σ H) : PSs X x t' := ⟨fun pins s σ H D I q => h.run pins s σ H D I (i _ _ _ q)⟩
theorem PT.imp {x : Expr} {t t' : TT} (h : PT X x t) (i : ∀ σ H Q, t' σ H Q → t σ H Q) : PT X x t' := ⟨fun pins s σ H Q I q => h.run pins s σ H Q I (i _ _ _ q)⟩
theorem PW.imp {x : Expr} {t t' : TT} (h : PW X x t) (i : ∀ σ H Q, t' σ H Q → t σ H Q) : PW X x t' := ⟨fun w pins s σ H Q I q => h.run w pins s σ H Q I (i _ _ _ q)⟩
theorem PA.imp {x : List Expr} {t t' : TA} (h : PA X x t) (i : ∀ σ H Q, t' σ H Q → t σ H Q) : PA X x t' := ⟨fun pos pins s σ H Q I q => h.run pos pins s σ H Q I (i _ _ _ q)⟩
theorem PE_sized {x : Expr} {t : TE} (h : PE X x t) : PE X x (fun σ H Q => t σ H fun v H1 => (∀ a xs, v = .ref a → SqL X.K H1 a xs ∨ SqT X.K H1 a xs → xs.length ≤ sizeLine) → Q v H1) := ⟨fun pins s σ H Q I q => by
  refine thn (h.run pins s σ H _ I q) fun u s1 ⟨v, H1, I1, r, k⟩ => ⟨v, H1, I1, r, k fun a xs _ hs => ?_⟩
  rcases hs with hs | hs
  · obtain ⟨_, _, _, hz⟩ := I1.list hs; exact hz
  · obtain ⟨_, _, _, hz⟩ := I1.tuple hs; exact hz⟩
theorem PA_sized {x : List Expr} {t : TA} (h : PA X x t) : PA X x (fun σ H Q => t σ H fun v H1 => (∀ a xs, SqL X.K H1 a xs ∨ SqT X.K H1 a xs → xs.length ≤ sizeLine) → Q v H1) := ⟨fun pos pins s σ H Q I q => by
  refine thn (h.run pos pins s σ H _ I q) fun u s1 ⟨v, H1, I1, r, k⟩ => ⟨v, H1, I1, r, k fun a xs hs => ?_⟩
  rcases hs with hs | hs
  · obtain ⟨_, _, _, hz⟩ := I1.list hs; exact hz
  · obtain ⟨_, _, _, hz⟩ := I1.tuple hs; exact hz⟩
theorem PI.imp {tg x : Expr} {t t' : TI} (h : PI X tg x t) (i : ∀ σ H Q, t' σ H Q → t σ H Q) : PI X tg x t' := ⟨fun pins s σ H Q I q => h.run pins s σ H Q I (i _ _ _ q)⟩
theorem PG.imp {x : Expr} {t t' : TG} (h : PG X x t) (i : ∀ v σ H Q, t' v σ H Q → t v σ H Q) : PG X x t' := ⟨fun pins s σ H v u Q I r q => h.run pins s σ H v u Q I r (i _ _ _ _ q)⟩
end
end Ev

/-! Ev9: names stored, forgotten, frozen. -/
namespace Ev
open PySem PySem.Spec L2
section
variable {K : Frag} {γ : Gt} {B : Bs} {F H : Hp} {σ σ' : L2.St} {s : Env}
def isIo : Slot → Bool
  | .io _ => true
  | _ => false
theorem set_get {α : Type} {l : List α} {i j : Nat} {x y : α} (h : (l.set i x)[j]? = some y) : (j = i ∧ y = x ∧ i < l.length) ∨ (j ≠ i ∧ l[j]? = some y) := by
  by_cases e : i = j
  · subst e
    have hl : i < l.length := by
      have := (List.getElem?_eq_some_iff.mp h).1
      simpa using this
    rw [List.getElem?_set_self hl] at h
    exact .inl ⟨rfl, (Option.some.inj h).symm, hl⟩
  · rw [List.getElem?_set_ne e] at h
    exact .inr ⟨fun z => e z.symm, h⟩
theorem SlotR.other {i : Nat} {x : Slot} (h : SlotR K γ B F H σ i x) (e : σ'[i]? = σ[i]?) : SlotR K γ B F H σ' i x := by
  cases x with
  | emp => trivial
  | frz d => obtain ⟨v, h1, h2⟩ := h; exact ⟨v, by rw [e]; exact h1, h2⟩
  | own d => obtain ⟨v, h1, h2⟩ := h; exact ⟨v, by rw [e]; exact h1, h2⟩
  | io d => obtain ⟨v, h1, h2⟩ := h; exact ⟨v, by rw [e]; exact h1, h2⟩
  | fn d => obtain ⟨v, h1, h2⟩ := h; exact ⟨v, by rw [e]; exact h1, h2⟩
/-- one place is told anew, as a thing that is not ours -/
theorem EnvR.put (en : EnvR K γ B F H σ s) {i : Nat} {y x : Slot} (hy : s[i]? = some y) (ny : isIo y = false) (hl : σ'.length = σ.length) (ho : ∀ j, j ≠ i → σ'[j]? = σ[j]?) (hx : SlotR K γ B F H σ' i x) (nx : isOwn x = false) : EnvR K γ B F H σ' (s.set i x) := by
  refine ⟨en.fh, by rw [List.length_set, hl]; exact en.len, fun j z h => ?_, fun j k z w a h1 h2 o1 o2 e1 e2 => ?_, en.tmp, fun p hp j z h o => ?_, en.tmpN, fun p hp => ?_, en.keep, en.fnew, en.fold, en.tab, en.ftb⟩
  · rcases set_get h with ⟨rfl, rfl, _⟩ | ⟨ne, h⟩
    · exact hx
    · exact (en.slot j z h).other (ho j ne)
  · rcases set_get h1 with ⟨rfl, rfl, _⟩ | ⟨n1, h1⟩
    · rw [nx] at o1; cases o1
    · rcases set_get h2 with ⟨rfl, rfl, _⟩ | ⟨n2, h2⟩
      · rw [nx] at o2; cases o2
      · rw [ho _ n1] at e1; rw [ho _ n2] at e2
        exact en.apart j k z w a h1 h2 o1 o2 e1 e2
  · rcases set_get h with ⟨rfl, rfl, _⟩ | ⟨n1, h1⟩
    · rw [nx] at o; cases o
    · rw [ho _ n1]; exact en.tmpA p hp j z h1 o
  · obtain ⟨d, h1, h2⟩ := en.lent p hp
    have hne : p.1 ≠ i := fun z => by rw [z, hy] at h1; cases h1; cases ny
    exact ⟨d, by rw [List.getElem?_set_ne (Ne.symm hne)]; exact h1, by rw [ho _ hne]; exact h2⟩
theorem EnvR.lt (en : EnvR K γ B F H σ s) {i : Nat} {y : Slot} (hy : s[i]? = some y) : i < σ.length := by
  rw [← en.len]; exact (List.getElem?_eq_some_iff.mp hy).1
theorem EnvR.putFrz (en : EnvR K γ B F H σ s) {i : Nat} {y : Slot} {v : V} {d : PV} (hy : s[i]? = some y) (ny : isIo y = false) (r : Rp K F v d) : EnvR K γ B F H (σ.set i (some v)) (s.set i (.frz d)) :=
  en.put hy ny (by simp) (fun j n => List.getElem?_set_ne (Ne.symm n)) ⟨v, List.getElem?_set_self (en.lt hy), r⟩ rfl
/-- a name forgets what is its own -/
theorem EnvR.putEmp (en : EnvR K γ B F H σ s) {i : Nat} {y : Slot} (hy : s[i]? = some y) (ny : isIo y = false) : EnvR K γ B F H σ (s.set i .emp) :=
  en.put hy ny rfl (fun _ _ => rfl) trivial rfl
theorem EnvR.ownAt (en : EnvR K γ B F H σ s) {i : Nat} {d : PV} (hy : s[i]? = some (.own d)) : ∃ a, σ[i]? = some (some (.ref a)) ∧ F a = none ∧ B.H0 a = none ∧ OwnR K F H a d ∧
    (∀ (j : Nat) (x : Slot), j ≠ i → s[j]? = some x → isOwn x = true → σ[j]? ≠ some (some (.ref a))) ∧ ∀ p ∈ B.T, p.1 ≠ a := by
  obtain ⟨a, h1, h2, h3, h4⟩ := en.slot i _ hy
  exact ⟨a, h1, h2, h3, h4, fun j x n hx o z => n (en.apart j i x _ a hx hy o rfl z h1), fun p hp z => en.tmpA p hp i _ hy rfl (by rw [h1, z])⟩
/-- moved out of a name -/
theorem EnvR.move (en : EnvR K γ B F H σ s) {i : Nat} {d : PV} (hy : s[i]? = some (.own d)) : ∃ v, σ[i]? = some (some v) ∧ EnvR K γ B F H σ (s.set i .emp) ∧ RvR K B F H σ (s.set i .emp) v (.own d) := by
  obtain ⟨a, h1, h2, h3, h4, h5, h6⟩ := en.ownAt hy
  refine ⟨.ref a, h1, en.putEmp hy rfl, a, rfl, h2, h3, h4, fun j x hx o => ?_, h6⟩
  rcases set_get hx with ⟨rfl, rfl, _⟩ | ⟨n, hx⟩
  · cases o
  · exact h5 j x n hx o
/-- a name's own thing is frozen where it stands -/
theorem EnvR.freezeAt (en : EnvR K γ B F H σ s) {i : Nat} {d : PV} (hy : s[i]? = some (.own d)) : ∃ v F', σ[i]? = some (some v) ∧ Sub F F' ∧ EnvR K γ B F' H σ (s.set i (.frz d)) ∧ Rp K F' v d := by
  obtain ⟨v, hv, e1, r1⟩ := en.move hy
  obtain ⟨F', s1, e2, r2⟩ := r1.good e1
  have r2 : Rp K F' v d := r2
  have hi : i < s.length := (List.getElem?_eq_some_iff.mp hy).1
  have e3 := e2.put (x := .frz d) (List.getElem?_set_self hi) rfl rfl (fun _ _ => rfl) ⟨v, hv, r2⟩ rfl
  rw [List.set_set] at e3
  exact ⟨v, F', hv, s1, e3, r2⟩
theorem EnvR.putOwn (en : EnvR K γ B F H σ s) {i : Nat} {y : Slot} {v : V} {d : PV} (hy : s[i]? = some y) (ny : isIo y = false) (r : RvR K B F H σ s v (.own d)) : EnvR K γ B F H (σ.set i (some v)) (s.set i (.own d)) := by
  obtain ⟨a, rfl, h1, h2, h3, h4, h5⟩ := r
  have hi := en.lt hy
  have ho : ∀ j, j ≠ i → (σ.set i (some (V.ref a)))[j]? = σ[j]? := fun j n => List.getElem?_set_ne (Ne.symm n)
  refine ⟨en.fh, by simp [en.len], fun j z h => ?_, fun j k z w b g1 g2 o1 o2 e1 e2 => ?_, en.tmp, fun p hp j z h o => ?_, en.tmpN, fun p hp => ?_, en.keep, en.fnew, en.fold, en.tab, en.ftb⟩
  · rcases set_get h with ⟨rfl, rfl, _⟩ | ⟨ne, h⟩
    · exact ⟨a, List.getElem?_set_self hi, h1, h2, h3⟩
    · exact (en.slot j z h).other (ho j ne)
  · rcases set_get g1 with ⟨q1, rfl, _⟩ | ⟨n1, k1⟩
    · rcases set_get g2 with ⟨q2, rfl, _⟩ | ⟨n2, k2⟩
      · rw [q1, q2]
      · rw [ho _ n2] at e2
        rw [q1, List.getElem?_set_self hi] at e1
        cases e1
        exact (h4 k w k2 o2 e2).elim
    · rcases set_get g2 with ⟨q2, rfl, _⟩ | ⟨n2, k2⟩
      · rw [ho _ n1] at e1
        rw [q2, List.getElem?_set_self hi] at e2
        cases e2
        exact (h4 j z k1 o1 e1).elim
      · rw [ho _ n1] at e1; rw [ho _ n2] at e2
        exact en.apart j k z w b k1 k2 o1 o2 e1 e2
  · rcases set_get h with ⟨rfl, rfl, _⟩ | ⟨n1, g1⟩
    · rw [List.getElem?_set_self hi]
      intro z
      cases z
      exact h5 p hp rfl
    · rw [ho _ n1]; exact en.tmpA p hp j z g1 o
  · obtain ⟨d, g1, g2⟩ := en.lent p hp
    have hne : p.1 ≠ i := fun z => by rw [z, hy] at g1; cases g1; cases ny
    exact ⟨d, by rw [List.getElem?_set_ne (Ne.symm hne)]; exact g1, by rw [ho _ hne]; exact g2⟩
/-- a result stored -/
theorem store_inv {i : Nat} {r : Rv} {s' : Env} (h : store i r s = .ok () s') : ∃ y, s[i]? = some y ∧ isIo y = false ∧ ((∃ d, r = .frz d ∧ s' = s.set i (.frz d)) ∨ ∃ d, r = .own d ∧ s' = s.set i (.own d)) := by
  unfold store at h
  split at h
  · cases h
  · cases h
  · rename_i y d hn hs
    injection h with _ h
    refine ⟨y, hs, ?_, .inl ⟨d, rfl, h.symm⟩⟩
    cases y <;> first | rfl | exact (hn _ rfl).elim
  · rename_i y d hn hs
    injection h with _ h
    refine ⟨y, hs, ?_, .inr ⟨d, rfl, h.symm⟩⟩
    cases y <;> first | rfl | exact (hn _ rfl).elim
  · cases h
theorem store_env (en : EnvR K γ B F H σ s) {i : Nat} {r : Rv} {v : V} {s' : Env} (h : store i r s = .ok () s') (hr : RvR K B F H σ s v r) : EnvR K γ B F H (σ.set i (some v)) s' := by
  obtain ⟨y, hy, ny, ⟨d, rfl, rfl⟩ | ⟨d, rfl, rfl⟩⟩ := store_inv h
  · exact en.putFrz hy ny hr
  · exact en.putOwn hy ny hr
end
end Ev

/-! Ev10: expressions, each by its parts. -/
namespace Ev
open PySem PySem.Spec L2
def SE (p : Prg) (γ : Gt) (n : Nat) (S : Sx) (e : E) : Prop := ∀ (X : Cx) (x : Expr), XC p γ n S X → chk S X.env.scope e x = true → PE X x (tU X.K γ (p.cf n) e)
def ST (p : Prg) (γ : Gt) (n : Nat) (S : Sx) (e : E) : Prop := ∀ (X : Cx) (x : Expr), XC p γ n S X → chk S X.env.scope e x = true → PT X x (tUT X.K γ (p.cf n) e)
def SEs (p : Prg) (γ : Gt) (n : Nat) (S : Sx) (es : List E) : Prop := ∀ (X : Cx) (xs : List Expr), XC p γ n S X → chks S X.env.scope es xs = true → xs.all notStar = true → PA X xs (tUs X.K γ (p.cf n) es)
def SEA (p : Prg) (γ : Gt) (n : Nat) (S : Sx) (es : List E) : Prop := ∀ (X : Cx) (xs : List Expr), XC p γ n S X → chkA S X.env.scope es xs = true → PA X xs (tUA X.K γ (p.cf n) es)
section
variable {p : Prg} {n : Nat} {S : Sx} {K : Frag} {γ : Gt} {c : Cf}
/-! ### leaves -/
theorem leaf {e : E} {d : PV} {v : V} {σ : L2.St} {H : Hp} {Q : VK} (h : tU K γ c e σ H Q) (he : ∀ s, ev c e s = .ok (.frz d) s) (r : ∀ F : Hp, Rp K F v d) : Q v H := by
  obtain ⟨B, s, r0, s', h1, F, en, k⟩ := h
  rw [he] at h1
  cases h1
  exact k v H F (Sub.refl F) en (r F)
theorem se_cint {i : Int} : SE p γ n S (.cint i) := fun X x c h => by
  simp only [chk] at h
  split at h
  · rw [decide_eq_true_eq] at h
    subst h
    exact PE.imp pe_int fun σ H Q q => leaf q (fun s => rfl) fun F => .int i
  · cases h
theorem se_cbl {b : Bool} : SE p γ n S (.cbl b) := fun X x c h => by
  simp only [chk] at h
  split at h
  · rw [beq_iff_eq] at h
    subst h
    exact PE.imp pe_bl fun σ H Q q => leaf q (fun s => rfl) fun F => .bl _
  · cases h
theorem se_cnon : SE p γ n S .cnon := fun X x c h => by
  simp only [chk] at h
  split at h
  · exact PE.imp pe_non fun σ H Q q => leaf q (fun s => rfl) fun F => .non
  · cases h
theorem se_cstr {z : Str} : SE p γ n S (.cstr z) := fun X x c h => by
  simp only [chk] at h
  split at h
  · rw [decide_eq_true_eq] at h
    subst h
    exact PE.imp pe_str fun σ H Q q => leaf q (fun s => rfl) fun F => .str _
  · cases h
theorem name_pe {X : Cx} {i : Nat} {x : Expr} (c : XC p γ n S X) (h : chk S X.env.scope (.var i) x = true) : PE X x (tVar i) := by
  simp only [chk] at h
  split at h
  · simp only [nameB, Bool.and_eq_true, decide_eq_true_eq] at h
    obtain ⟨⟨h1, h2⟩, h3⟩ := h
    obtain ⟨h4, h5⟩ := plainName_ok h3
    exact pe_var (by rw [c.hN]; exact h1) (visB_ok h2) h4 h5
  · cases h
theorem se_var {i : Nat} : SE p γ n S (.var i) := fun X x c h => by
  refine PE.imp (name_pe c h) fun σ H Q q => ?_
  obtain ⟨B, s, r0, s', h1, F, en, k⟩ := q
  have h1 : mVar i s = .ok r0 s' := h1
  unfold mVar at h1
  split at h1
  · rename_i d hs
    cases h1
    obtain ⟨v, hv, r⟩ := en.slot i _ hs
    exact ⟨v, hv, k v H F (Sub.refl F) en r⟩
  · rename_i d hs
    cases h1
    obtain ⟨v, F', hv, s1, e1, r1⟩ := en.freezeAt hs
    exact ⟨v, hv, k v H F' s1 e1 r1⟩
  · cases h1
theorem se_mv {i : Nat} : SE p γ n S (.mv i) := fun X x c h => by
  have h' : chk S X.env.scope (.var i) x = true := by simp only [chk] at h ⊢; exact h
  refine PE.imp (name_pe c h') fun σ H Q q => ?_
  obtain ⟨B, s, r0, s', h1, F, en, k⟩ := q
  have h1 : mMv i s = .ok r0 s' := h1
  unfold mMv at h1
  split at h1
  · rename_i d hs
    cases h1
    obtain ⟨v, hv, r⟩ := en.slot i _ hs
    exact ⟨v, hv, k v H F (Sub.refl F) en r⟩
  · rename_i d hs
    cases h1
    obtain ⟨v, hv, e1, r1⟩ := en.move hs
    exact ⟨v, hv, k v H F (Sub.refl F) e1 r1⟩
  · cases h1
theorem se_peek {i : Nat} : SE p γ n S (.peek i) := fun X x c h => by
  have h' : chk S X.env.scope (.var i) x = true := by simp only [chk] at h ⊢; exact h
  refine PE.imp (name_pe c h') fun σ H Q q => ?_
  obtain ⟨B, s, r0, s', h1, F, en, k⟩ := q
  have h1 : mPeek i s = .ok r0 s' := h1
  unfold mPeek at h1
  split at h1
  · rename_i d hs
    cases h1
    obtain ⟨v, hv, r⟩ := en.slot i _ hs
    exact ⟨v, hv, k v H F (Sub.refl F) en r⟩
  · rename_i d hs
    cases h1
    obtain ⟨a, hv, _⟩ := en.slot i _ hs
    exact ⟨_, hv, k _ H F (Sub.refl F) en hv⟩
  · rename_i d hs
    cases h1
    obtain ⟨a, hv, _⟩ := en.slot i _ hs
    exact ⟨_, hv, k _ H F (Sub.refl F) en hv⟩
  · cases h1
theorem se_glb {g : Nat} : SE p γ n S (.glb g) := fun X x c h => by
  simp only [chk] at h
  split at h
  case h_2 => cases h
  rename_i y pos
  simp only [Bool.and_eq_true, decide_eq_true_eq] at h
  obtain ⟨⟨h1, h2⟩, h3⟩ := h
  obtain ⟨h4, h5⟩ := plainName_ok h3
  cases hd : p.G[g]? with
  | none =>
    refine ⟨fun pins s σ H Q I q => ?_⟩
    obtain ⟨B, s, r0, s', h1, F, en, k⟩ := q
    have h1 : M.opt ((p.G[g]?).map Rv.frz) s = .ok r0 s' := h1
    rw [hd] at h1
    cases h1
  | some d =>
    obtain ⟨v, u, hm, hr, hp⟩ := c.gs g y d h1 hd
    refine PE.imp (pe_glob (gloB_ok rfl h2) hm hr h4) fun σ H Q q => leaf (d := d) q (fun s => ?_) hp
    show M.opt ((p.G[g]?).map Rv.frz) s = _
    rw [hd]
    rfl
/-! ### two parts -/
/-- a, then b; both for good, then what follows -/
theorem two {a b : E} {s s2 : Env} {r1 r2 : Rv} {s1 : Env} {B : Bs} {F H : Hp} {σ : L2.St} {R : V → V → Hp → Prop} (h1 : ev c a s = .ok r1 s1) (h2 : ev c b s1 = .ok r2 s2) (en : EnvR K γ B F H σ s)
    (k : ∀ x y H' F', Sub F F' → EnvR K γ B F' H' σ s2 → RvF K F' σ x r1 → RvF K F' σ y r2 → R x y H') : tU K γ c a σ H fun x H1 => tU K γ c b σ H1 fun y H2 => R x y H2 :=
  tU_good h1 en fun x H1 F1 q1 e1 g1 => tU_good h2 e1 fun y H2 F2 q2 e2 g2 => k x y H2 F2 (q1.trans q2) e2 (g1.sub q2) g2
/-- the end of an operation: what is wanted of its result -/
theorem want_of {B : Bs} {F F' H' : Hp} {σ : L2.St} {s : Env} {r : Rv} {Q : VK} (q1 : Sub F F') (e1 : EnvR K γ B F' H' σ s) (k : ∀ v H' F', Sub F F' → EnvR K γ B F' H' σ s → RvR K B F' H' σ s v r → Q v H') : Want K F' H' r Q :=
  fun z H2 F2 g rr => k z H2 F2 (q1.trans g.ff) (e1.grow g) (rr.rv e1 g)
theorem se_bin {op : Operator} {a b : E} (ha : SE p γ n S a) (hb : SE p γ n S b) : SE p γ n S (.bin op a b) := fun X x c h => by
  simp only [chk] at h
  split at h
  case h_2 => cases h
  rename_i l o r pos
  simp only [Bool.and_eq_true, decide_eq_true_eq] at h
  obtain ⟨⟨rfl, h1⟩, h2⟩ := h
  have rule : OpR X (binaryOp o) fun x y H Q => ∃ u v r, binOp o u v = some r ∧ ∃ F, Sub F H ∧ RpT X.K F H x u ∧ RpT X.K F H y v ∧ Want X.K F H r Q :=
    fun pins s σ H x y v u Q I rx ry ⟨d, e, r, hb, q⟩ => bin_ok hb pins s σ H x y v u Q I rx ry q
  refine PE.imp (pe_op rule (ha X _ c h1) (hb X _ c h2)) fun σ H Q q => ?_
  obtain ⟨B, s, r0, s', hv, F, en, k⟩ := q
  obtain ⟨r1, s1, g1, hv1⟩ := bind_inv hv
  obtain ⟨r2, s2, g2, hv2⟩ := bind_inv hv1
  obtain ⟨u, s3, g3, hv3⟩ := bind_inv hv2
  obtain ⟨v, s4, g4, hv4⟩ := bind_inv hv3
  obtain ⟨g5, rfl⟩ := opt_inv hv4
  refine two (R := fun x y H2 => ∃ u v r, binOp o u v = some r ∧ ∃ F, Sub F H2 ∧ RpT X.K F H2 x u ∧ RpT X.K F H2 y v ∧ Want X.K F H2 r Q) g1 g2 en fun x y H' F' q1 e1 rx ry => ?_
  obtain ⟨rfl, tx⟩ := opd_ok e1 rx g3
  obtain ⟨rfl, ty⟩ := opd_ok e1 ry g4
  exact ⟨u, v, r0, g5, F', e1.fh, tx, ty, want_of q1 e1 k⟩
theorem cmp_rule {X : Cx} {op : CmpOp} (hu : X.A.units + 65 < cLine) : OpR X (compareOp op) fun x y H Q => ∃ u v b, cmpOp op u v = some b ∧ ∃ F, Sub F H ∧ RpT X.K F H x u ∧ RpT X.K F H y v ∧ Want X.K F H (.frz (.bool b)) Q :=
  fun pins s σ H x y v u Q I rx ry ⟨d, e, r, hb, q⟩ => cmp_ok hu hb pins s σ H x y v u Q I rx ry q
theorem se_cmp {op : CmpOp} {a b : E} (ha : SE p γ n S a) (hb : SE p γ n S b) : SE p γ n S (.cmp op a b) := fun X x c h => by
  simp only [chk] at h
  split at h
  · rename_i l o r pos
    simp only [Bool.and_eq_true, decide_eq_true_eq] at h
    obtain ⟨⟨⟨rfl, h1⟩, h2⟩, h3⟩ := h
    refine PE.imp (pe_cmpR (cmp_rule (by have := c.u; omega)) (ha X _ c h1) (hb X _ c h2) (notSet_marks h3)) fun σ H Q q => ?_
    obtain ⟨B, s, r0, s', hv, F, en, k⟩ := q
    obtain ⟨r1, s1, g1, hv1⟩ := bind_inv hv
    obtain ⟨r2, s2, g2, hv2⟩ := bind_inv hv1
    obtain ⟨u, s3, g3, hv3⟩ := bind_inv hv2
    obtain ⟨v, s4, g4, hv4⟩ := bind_inv hv3
    obtain ⟨d, s5, g5, hv5⟩ := bind_inv hv4
    obtain ⟨w5, rfl⟩ := opt_inv g5
    obtain ⟨rfl, rfl⟩ := pure_inv hv5
    refine two (R := fun x y H2 => ∃ u v b, cmpOp o u v = some b ∧ ∃ F, Sub F H2 ∧ RpT X.K F H2 x u ∧ RpT X.K F H2 y v ∧ Want X.K F H2 (.frz (.bool b)) Q) g1 g2 en fun x y H' F' q1 e1 rx ry => ?_
    obtain ⟨rfl, tx⟩ := opd_ok e1 rx g3
    obtain ⟨rfl, ty⟩ := opd_ok e1 ry g4
    exact ⟨u, v, d, w5, F', e1.fh, tx, ty, want_of q1 e1 k⟩
  · cases h
theorem se_idx {a b : E} (ha : SE p γ n S a) (hb : SE p γ n S b) : SE p γ n S (.idx a b) := fun X x c h => by
  simp only [chk] at h
  split at h
  case h_2 => cases h
  rename_i o k0 pos
  simp only [Bool.and_eq_true, decide_eq_true_eq] at h
  obtain ⟨⟨h1, h2⟩, h3⟩ := h
  have rule : IxR X fun x y H Q => ∃ u v r, idxOp u v = some r ∧ ∃ F, Sub F H ∧ RpT X.K F H x u ∧ RpT X.K F H y v ∧ Want X.K F H (.frz r) Q :=
    fun a b pins s σ H x y v u Q I rx ry ⟨d, e, r, hb, q⟩ => idx_ok (by have := c.u; omega) hb a b pins s σ H x y v u Q I rx ry q
  refine PE.imp (pe_ix rule (ha X _ c h1) (hb X _ c h2) (notSlice_ix h3)) fun σ H Q q => ?_
  obtain ⟨B, s, r0, s', hv, F, en, k⟩ := q
  obtain ⟨r1, s1, g1, hv1⟩ := bind_inv hv
  obtain ⟨r2, s2, g2, hv2⟩ := bind_inv hv1
  obtain ⟨u, s3, g3, hv3⟩ := bind_inv hv2
  obtain ⟨v, s4, g4, hv4⟩ := bind_inv hv3
  obtain ⟨d, s5, g5, hv5⟩ := bind_inv hv4
  obtain ⟨w5, rfl⟩ := opt_inv g5
  obtain ⟨rfl, rfl⟩ := pure_inv hv5
  refine two (R := fun x y H2 => ∃ u v r, idxOp u v = some r ∧ ∃ F, Sub F H2 ∧ RpT X.K F H2 x u ∧ RpT X.K F H2 y v ∧ Want X.K F H2 (.frz r) Q) g1 g2 en fun x y H' F' q1 e1 rx ry => ?_
  obtain ⟨rfl, tx⟩ := opd_ok e1 rx g3
  obtain ⟨rfl, ty⟩ := opd_ok e1 ry g4
  exact ⟨u, v, d, w5, F', e1.fh, tx, ty, want_of q1 e1 k⟩
/-! ### one part -/
theorem se_neg {a : E} (ha : SE p γ n S a) : SE p γ n S (.neg a) := fun X x c h => by
  simp only [chk] at h
  split at h
  case h_2 => cases h
  refine PE.imp (pe_un un_neg (ha X _ c h)) fun σ H Q q => ?_
  obtain ⟨B, s, r0, s', hv, F, en, k⟩ := q
  obtain ⟨r1, s1, g1, hv1⟩ := bind_inv hv
  obtain ⟨u, s3, g3, hv2⟩ := bind_inv hv1
  refine tU_good g1 en fun x H' F' q1 e1 rx => ?_
  obtain ⟨rfl, tx⟩ := opd_ok e1 rx g3
  split at hv2
  · rename_i i
    obtain ⟨rfl, rfl⟩ := pure_inv hv2
    exact ⟨i, tx.int, k _ H' F' q1 e1 (.int _)⟩
  · cases hv2
theorem se_not {a : E} (ha : SE p γ n S a) : SE p γ n S (.not a) := fun X x c h => by
  simp only [chk] at h
  split at h
  case h_2 => cases h
  refine PE.imp (pe_notT (ha X _ c h)) fun σ H Q q => ?_
  obtain ⟨B, s, r0, s', hv, F, en, k⟩ := q
  obtain ⟨r1, s1, g1, hv1⟩ := bind_inv hv
  obtain ⟨u, s3, g3, hv2⟩ := bind_inv hv1
  obtain ⟨b, s5, g5, hv3⟩ := bind_inv hv2
  obtain ⟨w5, rfl⟩ := opt_inv g5
  obtain ⟨rfl, rfl⟩ := pure_inv hv3
  refine tU_good g1 en fun x H' F' q1 e1 rx => ?_
  obtain ⟨rfl, tx⟩ := opd_ok e1 rx g3
  exact ⟨b, truV w5 e1.fh tx, k _ H' F' q1 e1 (.bl _)⟩
/-! ### tests -/
/-- a test of no form of its own -/
def plainTest : Expr → Bool
  | .UnaryOp .Not _ _ => false
  | .BoolOp .. => false
  | .IfExp .. => false
  | .Compare .. => false
  | _ => true
theorem plainTest_ok {x : Expr} {env : PySem.Env} (h : plainTest x = true) : ∀ whole, isTrue x env whole = (do let v ← whole; standAt x.pos; holding [v] (truthy v)) := by
  intro w
  cases x <;> first | rfl | (cases h; done) | skip
  rename_i o y pos
  cases o <;> first | rfl | cases h
/-- from a test's run: the value, then its truth -/
theorem st_of_se {e : E} (he : SE p γ n S e) (hp : ∀ (X : Cx) (x : Expr), chk S X.env.scope e x = true → plainTest x = true) : ST p γ n S e := fun X x c h => by
  refine PT.imp (pt_truth (he X x c h) (plainTest_ok (hp X x h))) fun σ H Q q => ?_
  obtain ⟨B, s, r, s', d, b, h1, h2, h3, F, en, k⟩ := q
  refine tU_good h1 en fun x H' F' q1 e1 rx => ?_
  obtain ⟨_, tx⟩ := opd_ok e1 rx h2
  exact ⟨b, truV h3 e1.fh tx, k H' F' q1 e1⟩
theorem tUT_good {e : E} {B : Bs} {s s' : Env} {r : Rv} {d : PV} {b : Bool} {F H : Hp} {σ : L2.St} {Q : Bool → Hp → Prop} (h : ev c e s = .ok r s') (h2 : opd r s' = .ok d s') (h3 : truth d = some b) (en : EnvR K γ B F H σ s)
    (k : ∀ H' F', Sub F F' → EnvR K γ B F' H' σ s' → Q b H') : tUT K γ c e σ H Q := ⟨B, s, r, s', d, b, h, h2, h3, F, en, k⟩
theorem opd_same {r : Rv} {s s' : Env} {d : PV} (h : opd r s = .ok d s') : s' = s := by
  cases r with
  | frz x => injection h with _ h; exact h.symm
  | own x => injection h with _ h; exact h.symm
  | slot i => exact (opt_inv h).2
theorem st_not {a : E} (ha : ST p γ n S a) : ST p γ n S (.not a) := fun X x c h => by
  simp only [chk] at h
  split at h
  case h_2 => cases h
  refine PT.imp (pt_not (ha X _ c h)) fun σ H Q q => ?_
  obtain ⟨B, s, r0, s', d, b, hv, h2, h3, F, en, k⟩ := q
  obtain ⟨r1, s1, g1, hv1⟩ := bind_inv hv
  obtain ⟨u, s3, g3, hv2⟩ := bind_inv hv1
  obtain ⟨b2, s5, g5, hv3⟩ := bind_inv hv2
  obtain ⟨w5, rfl⟩ := opt_inv g5
  obtain ⟨rfl, rfl⟩ := pure_inv hv3
  injection h2 with h2 _
  subst h2
  cases h3
  obtain rfl := opd_same g3
  exact tUT_good g1 g3 w5 en k
theorem st_cmp {op : CmpOp} {a b : E} (ha : SE p γ n S a) (hb : SE p γ n S b) : ST p γ n S (.cmp op a b) := fun X x c h => by
  have hs := se_cmp ha hb X x c h
  simp only [chk] at h
  split at h
  · rename_i l o r pos
    simp only [Bool.and_eq_true, decide_eq_true_eq] at h
    obtain ⟨⟨⟨rfl, h1⟩, h2⟩, h3⟩ := h
    refine PT.imp (pt_cmpR (cmp_rule (by have := c.u; omega)) (ha X _ c h1) (hb X _ c h2) (notSet_marks h3)) fun σ H Q q => ?_
    obtain ⟨B, s, r0, s', d0, b0, hv, h4, h5, F, en, k⟩ := q
    obtain ⟨r1, s1, g1, hv1⟩ := bind_inv hv
    obtain ⟨r2, s2, g2, hv2⟩ := bind_inv hv1
    obtain ⟨u, s3, g3, hv3⟩ := bind_inv hv2
    obtain ⟨v, s4, g4, hv4⟩ := bind_inv hv3
    obtain ⟨d, s5, g5, hv5⟩ := bind_inv hv4
    obtain ⟨w5, rfl⟩ := opt_inv g5
    obtain ⟨rfl, rfl⟩ := pure_inv hv5
    injection h4 with h4 _
    subst h4
    cases h5
    obtain rfl := opd_same g3
    obtain rfl := opd_same g4
    refine two (R := fun x y H2 => ∃ u v b, cmpOp o u v = some b ∧ ∃ F, Sub F H2 ∧ RpT X.K F H2 x u ∧ RpT X.K F H2 y v ∧ Want X.K F H2 (.frz (.bool b)) fun x H' => ∃ k, x = V.bl k ∧ Q k H') g1 g2 en fun x y H' F' q1 e1 rx ry => ?_
    obtain ⟨_, tx⟩ := opd_ok e1 rx g3
    obtain ⟨_, ty⟩ := opd_ok e1 ry g4
    exact ⟨u, v, b0, w5, F', e1.fh, tx, ty, fun z H2 F2 g rr => ⟨b0, (show RpT X.K F2 H2 z (.bool b0) from rr).bl, k H2 F2 (q1.trans g.ff) (e1.grow g)⟩⟩
  · cases h
end
end Ev

/-! Ev11: calls of the program's own defs. -/
namespace Ev
open PySem PySem.Spec L2
section
variable {K : Frag} {γ : Gt} {B : Bs} {F H F' H' : Hp} {σ : L2.St} {s : Env}
def LentR (σ : L2.St) (s : Env) : List Nat → List Addr → Prop := Paired fun i a => ∃ x, s[i]? = some x ∧ isOwn x = true ∧ σ[i]? = some (some (.ref a))
theorem passArgs_ok (en : EnvR K γ B F H σ s) {lent : List Nat} : ∀ {rs : List Rv} {vs : List V} {k : Nat} {pq : List PV × List Nat} {s' : Env}, RvFs K F σ vs rs → passArgs lent k rs s = .ok pq s' →
    s' = s ∧ ∃ as, ArgsR K F H lent k vs pq.1 as ∧ LentR σ s pq.2 as
  | [], _, k, pq, s', h, e => by
    cases h
    obtain ⟨rfl, rfl⟩ := pure_inv e
    exact ⟨rfl, [], .nil, .nil⟩
  | r :: rs, _, k, pq, s', .cons (v := v) (vs := vs) h t, e => by
    obtain ⟨p1, s1, e1, w1⟩ := bind_inv e
    obtain ⟨p2, s2, e2, w2⟩ := bind_inv w1
    obtain ⟨q1, q2⟩ := pure_inv w2
    subst q1 q2
    unfold passOne at e1
    split at e1
    · rename_i hc
      split at e1
      · rename_i i
        have own : ∀ (x : Slot) (d : PV), s[i]? = some x → (x = .own d ∨ x = .io d) → ∃ a, v = .ref a ∧ F a = none ∧ OwnR K F H a d ∧ isOwn x = true ∧ σ[i]? = some (some (.ref a)) := by
          intro x d hx ho
          have w := en.slot i x hx
          have hv : σ[i]? = some (some v) := h
          rcases ho with rfl | rfl
          · obtain ⟨a, w1, w2, w3, w4⟩ := w
            rw [hv] at w1; cases w1
            exact ⟨a, rfl, w2, w4, rfl, hv⟩
          · obtain ⟨a, w1, w2, w3, w4⟩ := w
            rw [hv] at w1; cases w1
            exact ⟨a, rfl, w3, w4, rfl, hv⟩
        split at e1
        · rename_i d hs
          cases e1
          obtain ⟨rfl, as, a1, a2⟩ := passArgs_ok en t e2
          obtain ⟨a, rfl, g1, g2, g3, g4⟩ := own _ d hs (.inl rfl)
          exact ⟨rfl, a :: as, .lent hc g1 g2 a1, .cons ⟨_, hs, g3, g4⟩ a2⟩
        · rename_i d hs
          cases e1
          obtain ⟨rfl, as, a1, a2⟩ := passArgs_ok en t e2
          obtain ⟨a, rfl, g1, g2, g3, g4⟩ := own _ d hs (.inr rfl)
          exact ⟨rfl, a :: as, .lent hc g1 g2 a1, .cons ⟨_, hs, g3, g4⟩ a2⟩
        · cases e1
      · cases e1
    · rename_i hc
      obtain ⟨d, s3, e3, w3⟩ := bind_inv e1
      obtain ⟨q3, q4⟩ := pure_inv w3
      subst q3 q4
      obtain ⟨q5, hd⟩ := fz_ok h e3
      have q5 := q5.symm
      subst q5
      obtain ⟨rfl, as, a1, a2⟩ := passArgs_ok en t e2
      exact ⟨rfl, as, .val (by simpa using hc) hd a1, a2⟩
def reSlot (x : Slot) (o : PV) : Slot := match x with
  | .own _ => .own o
  | .io _ => .io o
  | y => y
def GB (is : List Nat) : Prop := ∀ {os : List PV} {s s2 : Env}, is.Nodup → giveBack is os s = .ok () s2 →
    is.length = os.length ∧ s2.length = s.length ∧ (∀ j, j ∉ is → s2[j]? = s[j]?) ∧ ∀ (k i : Nat) (o : PV), is[k]? = some i → os[k]? = some o → ∃ x, s[i]? = some x ∧ isOwn x = true ∧ s2[i]? = some (reSlot x o)
theorem giveBack_nil : GB [] := fun {os s s2} _ h => by
  cases os with
  | nil =>
    obtain ⟨_, rfl⟩ := pure_inv (show (pure () : M Unit) s = _ from h)
    exact ⟨rfl, rfl, fun _ _ => rfl, fun k i o h1 => by simp at h1⟩
  | cons v vs => cases (show (M.stuck : M Unit) s = _ from h)
theorem giveBack_cons {i : Nat} {is : List Nat} (ih : GB is) : GB (i :: is) := fun {os s s2} nd h => by
  cases os with
  | nil => cases (show (M.stuck : M Unit) s = _ from h)
  | cons v vs =>
    have nd' := (List.nodup_cons.mp nd).2
    have hni := (List.nodup_cons.mp nd).1
    have key : ∀ x, s[i]? = some x → isOwn x = true → giveBack is vs (s.set i (reSlot x v)) = .ok () s2 → (i :: is).length = (v :: vs).length ∧ s2.length = s.length ∧ (∀ j, j ∉ i :: is → s2[j]? = s[j]?) ∧
        ∀ (k j : Nat) (o : PV), (i :: is)[k]? = some j → (v :: vs)[k]? = some o → ∃ x, s[j]? = some x ∧ isOwn x = true ∧ s2[j]? = some (reSlot x o) := by
      intro x hx hox hg
      obtain ⟨l1, l2, l3, l4⟩ := ih nd' hg
      have hi : i < s.length := (List.getElem?_eq_some_iff.mp hx).1
      refine ⟨by simp [l1], by rw [l2, List.length_set], fun j hj => ?_, fun k j o h1 h2 => ?_⟩
      · simp only [List.mem_cons, not_or] at hj
        rw [l3 j hj.2, List.getElem?_set_ne (Ne.symm hj.1)]
      · cases k with
        | zero =>
          simp only [List.getElem?_cons_zero, Option.some.injEq] at h1 h2
          subst h1 h2
          refine ⟨x, hx, hox, ?_⟩
          rw [l3 i hni, List.getElem?_set_self hi]
        | succ k =>
          simp only [List.getElem?_cons_succ] at h1 h2
          obtain ⟨y, y1, y2, y3⟩ := l4 k j o h1 h2
          have hne : i ≠ j := fun z => hni (z ▸ List.mem_of_getElem? h1)
          rw [List.getElem?_set_ne hne] at y1
          exact ⟨y, y1, y2, y3⟩
    have h : (match s[i]? with
      | some (.own _) => giveBack is vs (s.set i (.own v))
      | some (.io _) => giveBack is vs (s.set i (.io v))
      | _ => .stuck) = .ok () s2 := h
    split at h
    · rename_i d hs
      exact key _ hs rfl h
    · rename_i d hs
      exact key _ hs rfl h
    · cases h
theorem giveBack_spec : ∀ {is : List Nat}, GB is
  | [] => giveBack_nil
  | _ :: _ => giveBack_cons giveBack_spec
theorem LentR.get : ∀ {is : List Nat} {as : List Addr}, LentR σ s is as → ∀ {k i : Nat}, is[k]? = some i → ∃ a, as[k]? = some a ∧ ∃ x, s[i]? = some x ∧ isOwn x = true ∧ σ[i]? = some (some (.ref a))
  | _, _, .nil, _, _, h => by simp at h
  | _, _, .cons r t, 0, i, h => by simp at h; subst h; exact ⟨_, rfl, r⟩
  | _, _, .cons r t, k + 1, i, h => by
    obtain ⟨a, h1, h2⟩ := LentR.get t (k := k) (i := i) (by simpa using h)
    exact ⟨a, by simpa using h1, h2⟩
theorem LentR.getA : ∀ {is : List Nat} {as : List Addr}, LentR σ s is as → ∀ {a : Addr}, a ∈ as → ∃ (k i : Nat), is[k]? = some i ∧ as[k]? = some a ∧ ∃ x, s[i]? = some x ∧ isOwn x = true ∧ σ[i]? = some (some (.ref a))
  | _, _, .nil, _, h => by cases h
  | _, _, .cons r t, a, h => by
    rcases List.mem_cons.mp h with rfl | h
    · exact ⟨0, _, rfl, rfl, r⟩
    · obtain ⟨k, i, h1, h2, h3⟩ := LentR.getA t h
      exact ⟨k + 1, i, by simpa using h1, by simpa using h2, h3⟩
theorem LentR.nodup (en : EnvR K γ B F H σ s) : ∀ {is : List Nat} {as : List Addr}, LentR σ s is as → is.Nodup → as.Nodup
  | _, _, .nil, _ => List.nodup_nil
  | _, _, .cons (a := i) (b := a) r t, nd => by
    obtain ⟨n1, n2⟩ := List.nodup_cons.mp nd
    refine List.nodup_cons.mpr ⟨fun hm => ?_, LentR.nodup en t n2⟩
    obtain ⟨k, j, h1, _, y, h3, h4, h5⟩ := LentR.getA t hm
    obtain ⟨x, g1, g2, g3⟩ := r
    have : i = j := en.apart i j x y a g1 h3 g2 h4 g3 h5
    exact n1 (this ▸ List.mem_of_getElem? h1)
theorem outs_get {P : Addr → PV → Prop} : ∀ {as : List Addr} {os : List PV}, Paired P as os → ∀ {k : Nat} {a : Addr}, as[k]? = some a → ∃ o, os[k]? = some o ∧ P a o
  | _, _, .nil, _, _, h => by simp at h
  | _, _, .cons r t, 0, a, h => by simp at h; subst h; exact ⟨_, rfl, r⟩
  | _, _, .cons r t, k + 1, a, h => by
    obtain ⟨o, h1, h2⟩ := outs_get t (k := k) (a := a) (by simpa using h)
    exact ⟨o, by simpa using h1, h2⟩
theorem isOwn_re {x : Slot} {o : PV} : isOwn (reSlot x o) = isOwn x := by cases x <;> rfl
/-- behind a call -/
theorem EnvR.called (en : EnvR K γ B F H σ s) {is : List Nat} {as : List Addr} {os : List PV} {r : Rv} {v : V} {s2 : Env} (hl : LentR σ s is as) (nd : is.Nodup) (hg : giveBack is os s = .ok () s2) (po : Post K γ F H as os r v F' H') :
    EnvR K γ B F' H' σ s2 ∧ RvR K B F' H' σ s2 v r := by
  obtain ⟨g1, g2, g3, g4⟩ := giveBack_spec nd hg
  -- a slot behind the call comes from one ahead of it
  have back : ∀ (j : Nat) (y : Slot), s2[j]? = some y → (j ∉ is ∧ s[j]? = some y) ∨ ∃ (k : Nat) (x : Slot) (a : Addr) (o : PV), is[k]? = some j ∧ as[k]? = some a ∧ os[k]? = some o ∧ s[j]? = some x ∧ isOwn x = true ∧ y = reSlot x o ∧ σ[j]? = some (some (.ref a)) ∧ OwnR K F' H' a o := by
    intro j y hy
    by_cases hj : j ∈ is
    · obtain ⟨k, hk, e⟩ := List.getElem_of_mem hj
      have hk' : is[k]? = some j := by rw [List.getElem?_eq_getElem hk, e]
      obtain ⟨a, ha, x, hx, ho, hs⟩ := hl.get hk'
      obtain ⟨o, hos, how⟩ := outs_get po.outs ha
      obtain ⟨x', q1, q2, q3⟩ := g4 k j o hk' hos
      rw [hx] at q1; cases q1
      rw [hy] at q3
      exact .inr ⟨k, x, a, o, hk', ha, hos, hx, ho, Option.some.inj q3, hs, how⟩
    · exact .inl ⟨hj, by rw [← g3 j hj]; exact hy⟩
  have own : ∀ (j : Nat) (y : Slot), s2[j]? = some y → isOwn y = true → ∃ x, s[j]? = some x ∧ isOwn x = true := by
    intro j y hy ho
    rcases back j y hy with ⟨_, h⟩ | ⟨k, x, a, o, _, _, _, h, h2, _⟩
    · exact ⟨y, h, ho⟩
    · exact ⟨x, h, h2⟩
  -- an own thing that was not lent is as it was
  have stays : ∀ (j : Nat) (y : Slot) (a : Addr), j ∉ is → s[j]? = some y → isOwn y = true → σ[j]? = some (some (.ref a)) → a ∉ as := by
    intro j y a hj hy ho hs hm
    obtain ⟨k, i, h1, _, x, h3, h4, h5⟩ := hl.getA hm
    have : i = j := en.apart i j x y a h3 hy h4 ho h5 hs
    exact hj (this ▸ List.mem_of_getElem? h1)
  have fnone : ∀ {a : Addr} {o : HO}, F a = none → noTb H a = some o → F' a = none := by
    intro a o h1 h2
    cases e : F' a with
    | none => rfl
    | some u =>
      rcases po.new a u e with h | h
      · rw [h1] at h; cases h
      · rw [h2] at h; cases h
  have nl : ∀ p ∈ B.T, p.1 ∉ as := by
    intro p hp hm
    obtain ⟨k, i, _, _, x, h3, h4, h5⟩ := hl.getA hm
    exact en.tmpA p hp i x h3 h4 h5
  have env : EnvR K γ B F' H' σ s2 := by
    refine ⟨po.fh, by rw [g2]; exact en.len, fun j y hy => ?_, fun i j x y a h1 h2 o1 o2 e1 e2 => ?_, fun p hp => ?_, fun p hp j y hy ho => ?_, en.tmpN, fun p hp => ?_, fun a o h nl => ?_, fun a o h => ?_, en.fold.trans po.ff, po.tab, po.ftb⟩
    · rcases back j y hy with ⟨hj, h⟩ | ⟨k, x, a, o, q1, q2, q3, h, ho, rfl, hs, how⟩
      · have w := en.slot j y h
        cases y with
        | emp => trivial
        | frz d => obtain ⟨v, w1, w2⟩ := w; exact ⟨v, w1, Rp.sub po.ff w2⟩
        | fn f => exact w
        | own d =>
          obtain ⟨a, w1, w2, w3, w4⟩ := w
          obtain ⟨u, hu⟩ := w4.noTb
          exact ⟨a, w1, fnone w2 hu, w3, w4.stayK po.ff fun u hu nu => po.keep _ _ hu nu (stays j _ a hj h rfl w1)⟩
        | io d =>
          obtain ⟨a, w1, w2, w3, w4⟩ := w
          obtain ⟨u, hu⟩ := w4.noTb
          exact ⟨a, w1, w2, fnone w3 hu, w4.stayK po.ff fun u hu nu => po.keep _ _ hu nu (stays j _ a hj h rfl w1)⟩
      · have w := en.slot j x h
        cases x with
        | emp => cases ho
        | frz d => cases ho
        | fn f => cases ho
        | own d =>
          obtain ⟨a', w1, w2, w3, w4⟩ := w
          rw [hs] at w1; cases w1
          obtain ⟨u, hu⟩ := w4.noTb
          exact ⟨a, hs, fnone w2 hu, w3, how⟩
        | io d =>
          obtain ⟨a', w1, w2, w3, w4⟩ := w
          rw [hs] at w1; cases w1
          obtain ⟨u, hu⟩ := w4.noTb
          exact ⟨a, hs, w2, fnone w3 hu, how⟩
    · obtain ⟨x', q1, q2⟩ := own i x h1 o1
      obtain ⟨y', q3, q4⟩ := own j y h2 o2
      exact en.apart i j x' y' a q1 q3 q2 q4 e1 e2
    · obtain ⟨h1, h2, h3⟩ := en.tmp p hp
      obtain ⟨u, hu⟩ := h3.noTb
      exact ⟨fnone h1 hu, h2, h3.stayK po.ff fun u hu nu => po.keep _ _ hu nu (nl p hp)⟩
    · obtain ⟨x', q1, q2⟩ := own j y hy ho
      exact en.tmpA p hp j x' q1 q2
    · obtain ⟨d, h1, h2⟩ := en.lent p hp
      by_cases hj : p.1 ∈ is
      · obtain ⟨k, hk, e⟩ := List.getElem_of_mem hj
        have hk' : is[k]? = some p.1 := by rw [List.getElem?_eq_getElem hk, e]
        obtain ⟨a, ha, x, hx, ho, hs⟩ := hl.get hk'
        obtain ⟨o, hos, how⟩ := outs_get po.outs ha
        obtain ⟨x', q1, q2, q3⟩ := g4 k p.1 o hk' hos
        rw [h1] at q1; cases q1
        exact ⟨o, q3, h2⟩
      · exact ⟨d, by rw [g3 _ hj]; exact h1, h2⟩
    · refine po.keep a o (en.keep a o h nl) (fun ps z => B.nt a ps (by rw [h, z])) fun hm => ?_
      obtain ⟨k, i, _, _, x, h3, h4, h5⟩ := hl.getA hm
      have w := en.slot i x h3
      cases x with
      | emp => cases h4
      | frz d => cases h4
      | fn f => cases h4
      | own d => obtain ⟨a', w1, w2, w3, w4⟩ := w; rw [h5] at w1; cases w1; rw [h] at w3; cases w3
      | io d => obtain ⟨a', w1, w2, w3, w4⟩ := w; rw [h5] at w1; cases w1; exact nl _ w2 rfl
    · rcases po.new a o h with h | h
      · exact en.fnew a o h
      · exact .inr (en.free0 h)
  refine ⟨env, ?_⟩
  cases r with
  | frz d => exact po.res
  | slot i => exact po.res.elim
  | own d =>
    obtain ⟨a, rfl, h1, h2, h3⟩ := po.res
    refine ⟨a, rfl, h2, en.free0 h1, h3, fun j y hy ho z => ?_, fun p hp z => ?_⟩
    · obtain ⟨x, q1, q2⟩ := own j y hy ho
      have w := en.slot j x q1
      cases x with
      | emp => cases q2
      | frz d => cases q2
      | fn f => cases q2
      | own d => obtain ⟨b, w1, _, _, w4⟩ := w; rw [z] at w1; cases w1; obtain ⟨o, ho⟩ := w4.noTb; rw [h1] at ho; cases ho
      | io d => obtain ⟨b, w1, _, _, w4⟩ := w; rw [z] at w1; cases w1; obtain ⟨o, ho⟩ := w4.noTb; rw [h1] at ho; cases ho
    · obtain ⟨_, _, w⟩ := en.tmp p hp
      obtain ⟨o, ho⟩ := w.noTb
      rw [z, h1] at ho; cases ho
end
end Ev

/-! Ev12: the other expressions. -/
namespace Ev
open PySem PySem.Spec L2
section
variable {p : Prg} {n : Nat} {S : Sx} {K : Frag} {γ : Gt} {c : Cf}
/-! ### argument lists -/
theorem ses_nil : SEs p γ n S [] := fun X xs c h _ => by
  simp only [chks] at h
  split at h
  · refine PA.imp pa_nil fun σ H Q q => ?_
    obtain ⟨B, s, rs, s', hv, F, en, k⟩ := q
    obtain ⟨rfl, rfl⟩ := pure_inv hv
    exact k [] H F (Sub.refl F) en .nil
  · cases h
theorem ses_cons {e : E} {es : List E} (he : SE p γ n S e) (hs : SEs p γ n S es) : SEs p γ n S (e :: es) := fun X xs c h hn => by
  simp only [chks] at h
  split at h
  · rename_i y ys
    simp only [Bool.and_eq_true] at h
    rw [List.all_cons, Bool.and_eq_true] at hn
    refine PA.imp (pa_cons (he X _ c h.1) (hs X _ c h.2 hn.2) (star_cons hn.1)) fun σ H Q q => ?_
    obtain ⟨B, s, rs, s', hv, F, en, k⟩ := q
    obtain ⟨r1, s1, g1, w1⟩ := bind_inv hv
    obtain ⟨rs1, s2, g2, w2⟩ := bind_inv w1
    obtain ⟨rfl, rfl⟩ := pure_inv w2
    refine tU_good g1 en fun v H1 F1 q1 e1 rv => ⟨B, s1, rs1, _, g2, F1, e1, fun vs H2 F2 q2 e2 rvs => ?_⟩
    exact k (v :: vs) H2 F2 (q1.trans q2) e2 (.cons (rv.sub q2) rvs)
  · cases h
theorem opds_ok {B : Bs} {F H : Hp} {σ : L2.St} {s : Env} (en : EnvR K γ B F H σ s) : ∀ {vs : List V} {rs : List Rv} {ds : List PV} {s' : Env}, RvFs K F σ vs rs → opds rs s = .ok ds s' → s' = s ∧ RTs K F H vs ds
  | _, _, ds, s', .nil, h => by
    obtain ⟨rfl, rfl⟩ := pure_inv h
    exact ⟨rfl, .nil⟩
  | _, _, ds, s', .cons r t, h => by
    obtain ⟨d, s1, g1, w1⟩ := bind_inv h
    obtain ⟨ds1, s2, g2, w2⟩ := bind_inv w1
    obtain ⟨q1, q2⟩ := pure_inv w2
    obtain ⟨e1, td⟩ := opd_ok en r g1
    have e1 := e1.symm
    subst e1
    obtain ⟨e2, ts⟩ := opds_ok en t g2
    subst q1
    exact ⟨q2.trans e2, .cons td ts⟩
theorem fzs_ok {F : Hp} {σ : L2.St} {s : Env} : ∀ {vs : List V} {rs : List Rv} {ds : List PV} {s' : Env}, RvFs K F σ vs rs → fzs rs s = .ok ds s' → s' = s ∧ RpAll K F vs ds
  | _, _, ds, s', .nil, h => by
    obtain ⟨rfl, rfl⟩ := pure_inv h
    exact ⟨rfl, .nil⟩
  | _, _, ds, s', .cons r t, h => by
    obtain ⟨d, s1, g1, w1⟩ := bind_inv h
    obtain ⟨ds1, s2, g2, w2⟩ := bind_inv w1
    obtain ⟨q1, q2⟩ := pure_inv w2
    obtain ⟨e1, td⟩ := fz_ok r g1
    have e1 := e1.symm
    subst e1
    obtain ⟨e2, ts⟩ := fzs_ok t g2
    subst q1
    exact ⟨q2.trans e2, .cons td ts⟩
theorem RTs.top {F H : Hp} (s : Sub F H) : ∀ {vs : List V} {ds : List PV}, RpAll K F vs ds → RTs K F H vs ds
  | _, _, .nil => .nil
  | _, _, .cons h t => .cons (Rp.top s h) (RTs.top s t)
/-! ### displays -/
theorem sea_nil : SEA p γ n S [] := fun X xs c h => by
  simp only [chkA] at h
  split at h
  · refine PA.imp pa_nil fun σ H Q q => ?_
    obtain ⟨B, s, rs, s', hv, F, en, k⟩ := q
    obtain ⟨rfl, rfl⟩ := pure_inv hv
    exact k [] H F (Sub.refl F) en .nil
  · cases h
def isStar : E → Bool
  | .star _ => true
  | _ => false
theorem evA_plain {e : E} {es : List E} (h : isStar e = false) : evA c (e :: es) = (do let r ← ev c e; let v ← fz r; let rs ← evA c es; pure (.frz v :: rs)) := by
  cases e <;> first | rfl | cases h
theorem chkA_plain {sc : Scope} {e : E} {es : List E} {xs : List Expr} (h : isStar e = false) (hc : chkA S sc (e :: es) xs = true) : ∃ y ys, xs = y :: ys ∧ notStar y = true ∧ chk S sc e y = true ∧ chkA S sc es ys = true := by
  cases xs with
  | nil => cases e <;> first | (simp [chkA] at hc; done) | cases h
  | cons y ys =>
    refine ⟨y, ys, rfl, ?_⟩
    cases e <;> first | (simp only [chkA, Bool.and_eq_true] at hc; exact ⟨hc.1.1, hc.1.2, hc.2⟩) | cases h
theorem sea_plain {e : E} {es : List E} (ns : isStar e = false) (he : SE p γ n S e) (hs : SEA p γ n S es) : SEA p γ n S (e :: es) := fun X xs c h => by
  obtain ⟨y, ys, rfl, h1, h2, h3⟩ := chkA_plain ns h
  refine PA.imp (pa_cons (he X _ c h2) (hs X _ c h3) (star_cons h1)) fun σ H Q q => ?_
  obtain ⟨B, s, rs, s', hv, F, en, k⟩ := q
  rw [evA_plain ns] at hv
  obtain ⟨r1, s1, g1, w1⟩ := bind_inv hv
  obtain ⟨d, s3, g3, w3⟩ := bind_inv w1
  obtain ⟨rs1, s2, g2, w2⟩ := bind_inv w3
  obtain ⟨rfl, rfl⟩ := pure_inv w2
  refine tU_good g1 en fun v H1 F1 q1 e1 rv => ?_
  obtain ⟨rfl, rd⟩ := fz_ok rv g3
  exact ⟨B, _, rs1, _, g2, F1, e1, fun vs H2 F2 q2 e2 rvs => k (v :: vs) H2 F2 (q1.trans q2) e2 (.cons (Rp.sub q2 rd) rvs)⟩
theorem sea_star {e : E} {es : List E} (he : SE p γ n S e) (hs : SEA p γ n S es) : SEA p γ n S (.star e :: es) := fun X xs c h => by
  simp only [chkA] at h
  split at h
  · simp only [Bool.and_eq_true] at h
    refine PA.imp (StX.pa_star (he X _ c h.1) (hs X _ c h.2)) fun σ H Q q => ?_
    obtain ⟨B, s, rs, s', hv, F, en, k⟩ := q
    have hv : (do let r ← ev (p.cf n) e; let u ← opd r; let xs ← M.opt (seq? u); let rs ← evA (p.cf n) es; pure (xs.map Rv.frz ++ rs) : M (List Rv)) s = .ok rs s' := hv
    obtain ⟨r1, s1, g1, w1⟩ := bind_inv hv
    obtain ⟨u, s3, g3, w3⟩ := bind_inv w1
    obtain ⟨ds, s4, g4, w4⟩ := bind_inv w3
    obtain ⟨g4', rfl⟩ := opt_inv g4
    obtain ⟨rs1, s2, g2, w2⟩ := bind_inv w4
    obtain ⟨rfl, rfl⟩ := pure_inv w2
    refine tU_good g1 en fun v H1 F1 q1 e1 rv => ?_
    obtain ⟨e3, tu⟩ := opd_ok e1 rv g3
    subst e3
    cases u with
    | list es' =>
      cases g4'
      obtain ⟨a, vs, rfl, ha, ra⟩ := tu.lst
      exact ⟨a, vs, rfl, .inr (.inl ha), B, _, rs1, _, g2, F1, e1, fun ws H2 F2 q2 e2 rvs => k (vs ++ ws) H2 F2 (q1.trans q2) e2 ((RvFs.ofAll (RpAll.sub q2 ra)).append rvs)⟩
    | tuple es' =>
      cases g4'
      obtain ⟨a, vs, rfl, ha, ra⟩ := tu.tup
      exact ⟨a, vs, rfl, .inl (SqT.sub e1.fh ha), B, _, rs1, _, g2, F1, e1, fun ws H2 F2 q2 e2 rvs => k (vs ++ ws) H2 F2 (q1.trans q2) e2 ((RvFs.ofAll (RpAll.sub q2 ra)).append rvs)⟩
    | _ => cases g4'
  · cases h
theorem se_tup {es : List E} (hs : SEA p γ n S es) : SE p γ n S (.tup es) := fun X x c h => by
  simp only [chk] at h
  split at h
  case h_2 => cases h
  refine PE.imp (pe_tupN (hs X _ c h)) fun σ H Q q => ?_
  obtain ⟨B, s, r0, s', hv, F, en, k⟩ := q
  obtain ⟨rs, s1, g1, w1⟩ := bind_inv hv
  obtain ⟨ds, s2, g2, w2⟩ := bind_inv w1
  refine ⟨B, s, rs, s1, g1, F, en, fun vs H1 F1 q1 e1 rv => ?_⟩
  obtain ⟨rfl, ra⟩ := fzs_ok rv g2
  split at w2
  · rename_i hz
    obtain ⟨rfl, rfl⟩ := pure_inv w2
    exact ⟨by rw [ra.length, ← lim_eq]; exact hz, (want_of q1 e1 k).tup e1.fh ra⟩
  · cases w2
theorem se_lst {es : List E} (hs : SEA p γ n S es) : SE p γ n S (.lst es) := fun X x c h => by
  simp only [chk] at h
  split at h
  case h_2 => cases h
  refine PE.imp (pe_lst (hs X _ c h)) fun σ H Q q => ?_
  obtain ⟨B, s, r0, s', hv, F, en, k⟩ := q
  obtain ⟨rs, s1, g1, w1⟩ := bind_inv hv
  obtain ⟨ds, s2, g2, w2⟩ := bind_inv w1
  refine ⟨B, s, rs, s1, g1, F, en, fun vs H1 F1 q1 e1 rv => ?_⟩
  obtain ⟨rfl, ra⟩ := fzs_ok rv g2
  split at w2
  · rename_i hz
    obtain ⟨rfl, rfl⟩ := pure_inv w2
    exact ⟨by rw [ra.length, ← lim_eq]; exact hz, (want_of q1 e1 k).lst e1.fh ra⟩
  · cases w2
theorem se_dct0 : SE p γ n S .dct0 := fun X x c h => by
  simp only [chk] at h
  split at h
  case h_2 => cases h
  refine PE.imp pe_dnewK fun σ H Q q => ?_
  obtain ⟨B, s, r0, s', hv, F, en, k⟩ := q
  obtain ⟨rfl, rfl⟩ := pure_inv hv
  intro d hd
  have w : Want X.K F H (.own (.dict [])) Q := want_of (Sub.refl F) en k
  exact w _ _ F (Grow.own en.fh hd) ⟨d, rfl, hd, en.fh.none hd, [], upd_same, .nil⟩
/-! ### slices -/
theorem sl_rule {X : Cx} : SlR X fun x l h H Q => ∃ u r, slcOp l h u = some r ∧ ∃ F, Sub F H ∧ RpT X.K F H x u ∧ Want X.K F H r Q :=
  fun pins s σ H x v vl vu lo hi sl Q I a b c d ⟨u, r, hs, q⟩ => slc_ok hs pins s σ H x v vl vu lo hi sl Q I a b c d ⟨rfl, rfl, q⟩
theorem fz_int {F : Hp} {σ : L2.St} {r : Rv} {s s' : Env} {i : Int} {y : V} (h : RvF K F σ y r) (g : fz r s = .ok (.int i) s') : y = .int i := by
  obtain ⟨_, q⟩ := fz_ok h g
  cases q; rfl
theorem fz_same {r : Rv} {s s' : Env} {d : PV} (h : fz r s = .ok d s') : s' = s := by
  cases r with
  | frz x => injection h with _ h; exact h.symm
  | own x => injection h with _ h; exact h.symm
  | slot i => cases h
theorem se_slcL {a lo : E} (ha : SE p γ n S a) (hl : SE p γ n S lo) : SE p γ n S (.slcL a lo) := fun X x c h => by
  simp only [chk] at h
  split at h
  case h_2 => cases h
  rw [Bool.and_eq_true] at h
  refine PE.imp (pe_slice sl_rule (ha X _ c h.1) (po_some (hl X _ c h.2)) po_none) fun σ H Q q => ?_
  obtain ⟨B, s, r0, s', hv, F, en, k⟩ := q
  obtain ⟨r1, s1, g1, w1⟩ := bind_inv hv
  obtain ⟨r2, s2, g2, w2⟩ := bind_inv w1
  obtain ⟨u, s3, g3, w3⟩ := bind_inv w2
  obtain ⟨v, s4, g4, w4⟩ := bind_inv w3
  refine two (R := fun x y H2 => ∃ i, y = .int i ∧ ∃ u r, slcOp (some i) none u = some r ∧ ∃ F, Sub F H2 ∧ RpT X.K F H2 x u ∧ Want X.K F H2 r Q) g1 g2 en fun x y H' F' q1 e1 rx ry => ?_
  obtain ⟨rfl, tx⟩ := opd_ok e1 rx g3
  split at w4
  · rename_i i
    have ty := fz_int ry g4
    obtain rfl := fz_same g4
    obtain ⟨g5, rfl⟩ := opt_inv w4
    exact ⟨i, ty, u, r0, g5, F', e1.fh, tx, want_of q1 e1 k⟩
  · cases w4
theorem se_slcH {a hi : E} (ha : SE p γ n S a) (hh : SE p γ n S hi) : SE p γ n S (.slcH a hi) := fun X x c h => by
  simp only [chk] at h
  split at h
  case h_2 => cases h
  rw [Bool.and_eq_true] at h
  refine PE.imp (pe_slice sl_rule (ha X _ c h.1) po_none (po_some (hh X _ c h.2))) fun σ H Q q => ?_
  obtain ⟨B, s, r0, s', hv, F, en, k⟩ := q
  obtain ⟨r1, s1, g1, w1⟩ := bind_inv hv
  obtain ⟨r2, s2, g2, w2⟩ := bind_inv w1
  obtain ⟨u, s3, g3, w3⟩ := bind_inv w2
  obtain ⟨v, s4, g4, w4⟩ := bind_inv w3
  refine two (R := fun x y H2 => ∃ i, y = .int i ∧ ∃ u r, slcOp none (some i) u = some r ∧ ∃ F, Sub F H2 ∧ RpT X.K F H2 x u ∧ Want X.K F H2 r Q) g1 g2 en fun x y H' F' q1 e1 rx ry => ?_
  obtain ⟨rfl, tx⟩ := opd_ok e1 rx g3
  split at w4
  · rename_i i
    have ty := fz_int ry g4
    obtain rfl := fz_same g4
    obtain ⟨g5, rfl⟩ := opt_inv w4
    exact ⟨i, ty, u, r0, g5, F', e1.fh, tx, want_of q1 e1 k⟩
  · cases w4
theorem se_slcLH {a lo hi : E} (ha : SE p γ n S a) (hl : SE p γ n S lo) (hh : SE p γ n S hi) : SE p γ n S (.slcLH a lo hi) := fun X x c h => by
  simp only [chk] at h
  split at h
  case h_2 => cases h
  rw [Bool.and_eq_true, Bool.and_eq_true] at h
  refine PE.imp (pe_slice sl_rule (ha X _ c h.1.1) (po_some (hl X _ c h.1.2)) (po_some (hh X _ c h.2))) fun σ H Q q => ?_
  obtain ⟨B, s, r0, s', hv, F, en, k⟩ := q
  obtain ⟨r1, s1, g1, w1⟩ := bind_inv hv
  obtain ⟨r2, s2, g2, w2⟩ := bind_inv w1
  obtain ⟨r3, s3, g3, w3⟩ := bind_inv w2
  obtain ⟨u, s4, g4, w4⟩ := bind_inv w3
  obtain ⟨v, s5, g5, w5⟩ := bind_inv w4
  obtain ⟨w, s6, g6, w6⟩ := bind_inv w5
  refine tU_good g1 en fun x H1 F1 q1 e1 rx => tU_good g2 e1 fun y H2 F2 q2 e2 ry => ?_
  have rx2 := rx.sub q2
  split at w6
  · rename_i i j
    refine ⟨i, fz_int ry g5, tU_good g3 e2 fun z H3 F3 q3 e3 rz => ⟨j, fz_int rz g6, ?_⟩⟩
    obtain ⟨e4, tx⟩ := opd_ok e3 (rx2.sub q3) g4
    have e5 := fz_same g5
    have e6 := fz_same g6
    obtain ⟨g7, e7⟩ := opt_inv w6
    have es : s' = s3 := by rw [e7, e6, e5, e4]
    subst es
    exact ⟨u, r0, g7, F3, e3.fh, tx, want_of (q1.trans (q2.trans q3)) e3 k⟩
  · cases w6
/-! ### if, and, or -/
theorem se_ite {t a b : E} (ht : ST p γ n S t) (ha : SE p γ n S a) (hb : SE p γ n S b) : SE p γ n S (.ite t a b) := fun X x c h => by
  simp only [chk] at h
  split at h
  case h_2 => cases h
  rw [Bool.and_eq_true, Bool.and_eq_true] at h
  refine PE.imp (pe_ifExp (ht X _ c h.1.1) (ha X _ c h.1.2) (hb X _ c h.2)) fun σ H Q q => ?_
  obtain ⟨B, s, r0, s', hv, F, en, k⟩ := q
  obtain ⟨r1, s1, g1, w1⟩ := bind_inv hv
  obtain ⟨u, s2, g2, w2⟩ := bind_inv w1
  obtain ⟨d, s3, g3, w3⟩ := bind_inv w2
  obtain ⟨g3', rfl⟩ := opt_inv g3
  obtain rfl := opd_same g2
  refine tUT_good g1 g2 g3' en fun H1 F1 q1 e1 => ?_
  split
  · rename_i hd
    rw [hd, if_pos rfl] at w3
    exact ⟨B, _, r0, s', w3, F1, e1, fun v H2 F2 q2 e2 rv => k v H2 F2 (q1.trans q2) e2 rv⟩
  · rename_i hd
    rw [if_neg hd] at w3
    exact ⟨B, _, r0, s', w3, F1, e1, fun v H2 F2 q2 e2 rv => k v H2 F2 (q1.trans q2) e2 rv⟩
def tUB (K : Frag) (γ : Gt) (c : Cf) (op : BoolOp) (es : List E) : TE := fun σ H Q => ∃ B s r s', evB c op es s = .ok r s' ∧ ∃ F, EnvR K γ B F H σ s ∧ ∀ v H' F', Sub F F' → EnvR K γ B F' H' σ s' → RvR K B F' H' σ s' v r → Q v H'
theorem evB_cons {op : BoolOp} {e e2 : E} {es : List E} {s s' : Env} {r : Rv} (h : evB c op (e :: e2 :: es) s = .ok r s') : ∃ x s1 b, ev c e s = .ok x s1 ∧ opd x s1 = .ok (.bool b) s1 ∧
    ((op = .And ∧ b = false ∨ op = .Or ∧ b = true) ∧ r = .frz (.bool b) ∧ s' = s1 ∨ (op = .And ∧ b = true ∨ op = .Or ∧ b = false) ∧ evB c op (e2 :: es) s1 = .ok r s') := by
  obtain ⟨x, s1, g1, w1⟩ := bind_inv h
  obtain ⟨u, s2, g2, w2⟩ := bind_inv w1
  have e2' := opd_same g2
  subst e2'
  split at w2
  · obtain ⟨rfl, rfl⟩ := pure_inv w2
    exact ⟨x, _, _, g1, g2, .inl ⟨.inl ⟨rfl, rfl⟩, rfl, rfl⟩⟩
  · exact ⟨x, _, _, g1, g2, .inr ⟨.inl ⟨rfl, rfl⟩, w2⟩⟩
  · obtain ⟨rfl, rfl⟩ := pure_inv w2
    exact ⟨x, _, _, g1, g2, .inl ⟨.inr ⟨rfl, rfl⟩, rfl, rfl⟩⟩
  · exact ⟨x, _, _, g1, g2, .inr ⟨.inr ⟨rfl, rfl⟩, w2⟩⟩
  · cases w2
theorem seb {op : BoolOp} : ∀ {es : List E}, (∀ e ∈ es, SE p γ n S e) → ∀ (X : Cx) (xs : List Expr) (pos : Pos), XC p γ n S X → chks S X.env.scope es xs = true → es ≠ [] → PE X (.BoolOp op xs pos) (tUB X.K γ (p.cf n) op es)
  | [], _, _, _, _, _, _, h => (h rfl).elim
  | [e], he, X, xs, pos, c, h, _ => by
    simp only [chks] at h
    split at h
    · rename_i y ys
      rw [Bool.and_eq_true] at h
      obtain ⟨h1, h2⟩ := h
      split at h2
      · refine PE.imp (pe_one (he e (by simp) X _ c h1)) fun σ H Q q => ?_
        obtain ⟨B, s, r0, s', hv, F, en, k⟩ := q
        obtain ⟨r1, s1, g1, w1⟩ := bind_inv hv
        obtain ⟨u, s2, g2, w2⟩ := bind_inv w1
        obtain ⟨rfl, rfl⟩ := pure_inv w2
        refine tU_good g1 en fun v H1 F1 q1 e1 rv => ?_
        obtain ⟨rfl, rd⟩ := fz_ok rv g2
        exact k v H1 F1 q1 e1 rd
      · cases h2
    · cases h
  | e :: e2 :: es, he, X, xs, pos, c, h, _ => by
    simp only [chks] at h
    split at h
    · rename_i y ys
      rw [Bool.and_eq_true] at h
      obtain ⟨h1, h2⟩ := h
      split at h2
      · rename_i y2 ys2
        have rest : PE X (.BoolOp op (y2 :: ys2) pos) (tUB X.K γ (p.cf n) op (e2 :: es)) := seb (fun e' hm => he e' (List.mem_cons_of_mem _ hm)) X _ pos c (by simp only [chks]; exact h2) (by simp)
        have first := he e (by simp) X y c h1
        cases op with
        | And =>
          refine PE.imp (pe_and first rest) fun σ H Q q => ?_
          obtain ⟨B, s, r0, s', hv, F, en, k⟩ := q
          obtain ⟨x, s1, b, g1, g2, g3⟩ := evB_cons hv
          refine tU_good g1 en fun v H1 F1 q1 e1 rv => ⟨b, (opd_ok e1 rv g2).2.bl, ?_⟩
          rcases g3 with ⟨⟨_, rfl⟩ | ⟨z, _⟩, rfl, rfl⟩ | ⟨⟨_, rfl⟩ | ⟨z, _⟩, g4⟩
          · rw [if_neg Bool.false_ne_true]
            exact k _ H1 F1 q1 e1 (.bl _)
          · cases z
          · rw [if_pos rfl]
            exact ⟨B, s1, r0, s', g4, F1, e1, fun v H2 F2 q2 e2 rv => k v H2 F2 (q1.trans q2) e2 rv⟩
          · cases z
        | Or =>
          refine PE.imp (pe_or first rest) fun σ H Q q => ?_
          obtain ⟨B, s, r0, s', hv, F, en, k⟩ := q
          obtain ⟨x, s1, b, g1, g2, g3⟩ := evB_cons hv
          refine tU_good g1 en fun v H1 F1 q1 e1 rv => ⟨b, (opd_ok e1 rv g2).2.bl, ?_⟩
          rcases g3 with ⟨⟨z, _⟩ | ⟨_, rfl⟩, rfl, rfl⟩ | ⟨⟨z, _⟩ | ⟨_, rfl⟩, g4⟩
          · cases z
          · rw [if_pos rfl]
            exact k _ H1 F1 q1 e1 (.bl _)
          · cases z
          · rw [if_neg Bool.false_ne_true]
            exact ⟨B, s1, r0, s', g4, F1, e1, fun v H2 F2 q2 e2 rv => k v H2 F2 (q1.trans q2) e2 rv⟩
      · cases h2
    · cases h
theorem se_bop {op : BoolOp} {es : List E} (he : ∀ e ∈ es, SE p γ n S e) : SE p γ n S (.bop op es) := fun X x c h => by
  simp only [chk] at h
  split at h
  case h_2 => cases h
  rename_i o ys pos
  simp only [Bool.and_eq_true, decide_eq_true_eq] at h
  obtain ⟨⟨rfl, h1⟩, h2⟩ := h
  have hne : es ≠ [] := by
    intro z
    subst z
    simp only [chks] at h1
    split at h1
    · simp at h2
    · cases h1
  exact seb he X ys pos c h1 hne
def tUBT (K : Frag) (γ : Gt) (c : Cf) (op : BoolOp) (es : List E) : TT := fun σ H Q => ∃ B s r s' d b, evB c op es s = .ok r s' ∧ opd r s' = .ok d s' ∧ truth d = some b ∧ ∃ F, EnvR K γ B F H σ s ∧ ∀ H' F', Sub F F' → EnvR K γ B F' H' σ s' → Q b H'
theorem stb {op : BoolOp} : ∀ {es : List E}, (∀ e ∈ es, ST p γ n S e) → ∀ (X : Cx) (xs : List Expr) (pos : Pos), XC p γ n S X → chks S X.env.scope es xs = true → es ≠ [] → PW X (.BoolOp op xs pos) (tUBT X.K γ (p.cf n) op es)
  | [], _, _, _, _, _, _, h => (h rfl).elim
  | [e], he, X, xs, pos, c, h, _ => by
    simp only [chks] at h
    split at h
    · rename_i y ys
      rw [Bool.and_eq_true] at h
      obtain ⟨h1, h2⟩ := h
      split at h2
      · have base : PW X (.BoolOp op [y] pos) (tUT X.K γ (p.cf n) e) := by
          cases op with
          | And => exact pw_and1 (he e (by simp) X _ c h1)
          | Or => exact pw_or1 (he e (by simp) X _ c h1)
        refine PW.imp base fun σ H Q q => ?_
        obtain ⟨B, s, r0, s', d, b, hv, h3, h4, F, en, k⟩ := q
        obtain ⟨r1, s1, g1, w1⟩ := bind_inv hv
        obtain ⟨u, s2, g2, w2⟩ := bind_inv w1
        obtain ⟨rfl, rfl⟩ := pure_inv w2
        injection h3 with h3 _
        subst h3
        have e2 := fz_same g2
        subst e2
        have g2' : opd r1 s' = .ok u s' := by
          cases r1 with
          | frz x => exact g2
          | own x => exact g2
          | slot i => cases g2
        exact tUT_good g1 g2' h4 en k
      · cases h2
    · cases h
  | e :: e2 :: es, he, X, xs, pos, c, h, _ => by
    simp only [chks] at h
    split at h
    · rename_i y ys
      rw [Bool.and_eq_true] at h
      obtain ⟨h1, h2⟩ := h
      split at h2
      · rename_i y2 ys2
        have rest : PW X (.BoolOp op (y2 :: ys2) pos) (tUBT X.K γ (p.cf n) op (e2 :: es)) := stb (fun e' hm => he e' (List.mem_cons_of_mem _ hm)) X _ pos c (by simp only [chks]; exact h2) (by simp)
        have first := he e (by simp) X y c h1
        cases op with
        | And =>
          refine PW.imp (pw_and first rest) fun σ H Q q => ?_
          obtain ⟨B, s, r0, s', d, b0, hv, h3, h4, F, en, k⟩ := q
          obtain ⟨x, s1, b, g1, g2, g3⟩ := evB_cons hv
          refine tUT_good (b := b) g1 g2 rfl en fun H1 F1 q1 e1 => ?_
          rcases g3 with ⟨⟨_, rfl⟩ | ⟨z, _⟩, rfl, rfl⟩ | ⟨⟨_, rfl⟩ | ⟨z, _⟩, g4⟩
          · rw [if_neg Bool.false_ne_true]
            injection h3 with h3 _
            subst h3
            cases h4
            exact k H1 F1 q1 e1
          · cases z
          · rw [if_pos rfl]
            exact ⟨B, s1, r0, s', d, b0, g4, h3, h4, F1, e1, fun H2 F2 q2 e2 => k H2 F2 (q1.trans q2) e2⟩
          · cases z
        | Or =>
          refine PW.imp (pw_or first rest) fun σ H Q q => ?_
          obtain ⟨B, s, r0, s', d, b0, hv, h3, h4, F, en, k⟩ := q
          obtain ⟨x, s1, b, g1, g2, g3⟩ := evB_cons hv
          refine tUT_good (b := b) g1 g2 rfl en fun H1 F1 q1 e1 => ?_
          rcases g3 with ⟨⟨z, _⟩ | ⟨_, rfl⟩, rfl, rfl⟩ | ⟨⟨z, _⟩ | ⟨_, rfl⟩, g4⟩
          · cases z
          · rw [if_pos rfl]
            injection h3 with h3 _
            subst h3
            cases h4
            exact k H1 F1 q1 e1
          · cases z
          · rw [if_neg Bool.false_ne_true]
            exact ⟨B, s1, r0, s', d, b0, g4, h3, h4, F1, e1, fun H2 F2 q2 e2 => k H2 F2 (q1.trans q2) e2⟩
      · cases h2
    · cases h
theorem st_bop {op : BoolOp} {es : List E} (he : ∀ e ∈ es, ST p γ n S e) : ST p γ n S (.bop op es) := fun X x c h => by
  simp only [chk] at h
  split at h
  case h_2 => cases h
  rename_i o ys pos
  simp only [Bool.and_eq_true, decide_eq_true_eq] at h
  obtain ⟨⟨rfl, h1⟩, h2⟩ := h
  have hne : es ≠ [] := by
    intro z
    subst z
    simp only [chks] at h1
    split at h1
    · simp at h2
    · cases h1
  exact (stb he X ys pos c h1 hne).pt
end
end Ev

/-! Ev13: chains, built-ins, methods, calls. -/
namespace Ev
open PySem PySem.Spec L2
section
variable {p : Prg} {n : Nat} {S : Sx} {K : Frag} {γ : Gt} {c : Cf}
theorem chain_marks {o1 o2 : CmpOp} {m r : Expr} (h1 : notSet m = true) (h2 : notSet r = true) : lastMarks [o1, o2] [m, r] = false := notSet_marks (op := o2) h2
abbrev CmpRule (K : Frag) (op : CmpOp) : R2 := fun x y H Q => ∃ u v b, cmpOp op u v = some b ∧ ∃ F, Sub F H ∧ RpT K F H x u ∧ RpT K F H y v ∧ Want K F H (.frz (.bool b)) Q
/-- how a chain runs -/
theorem chain_inv {o1 o2 : CmpOp} {a b d : E} {s s' : Env} {r0 : Rv} (h : ev c (.chain o1 o2 a b d) s = .ok r0 s') : ∃ x s1 y s2 u v k, ev c a s = .ok x s1 ∧ ev c b s1 = .ok y s2 ∧ opd x s2 = .ok u s2 ∧ fz y s2 = .ok v s2 ∧ cmpOp o1 u v = some k ∧
    ((k = false ∧ r0 = .frz (.bool false) ∧ s' = s2) ∨ k = true ∧ ∃ z w k2, ev c d s2 = .ok z s' ∧ opd z s' = .ok w s' ∧ cmpOp o2 v w = some k2 ∧ r0 = .frz (.bool k2)) := by
  obtain ⟨x, s1, g1, w1⟩ := bind_inv h
  obtain ⟨y, s2, g2, w2⟩ := bind_inv w1
  obtain ⟨u, s3, g3, w3⟩ := bind_inv w2
  obtain ⟨v, s4, g4, w4⟩ := bind_inv w3
  obtain ⟨k, s5, g5, w5⟩ := bind_inv w4
  obtain ⟨g5', e5⟩ := opt_inv g5
  have e3 := opd_same g3
  have e4 := fz_same g4
  subst e3
  subst e4
  subst e5
  refine ⟨x, s1, y, _, u, v, k, g1, g2, g3, g4, g5', ?_⟩
  cases k with
  | false =>
    rw [if_neg Bool.false_ne_true] at w5
    obtain ⟨rfl, rfl⟩ := pure_inv w5
    exact .inl ⟨rfl, rfl, rfl⟩
  | true =>
    rw [if_pos rfl] at w5
    obtain ⟨z, s6, g6, w6⟩ := bind_inv w5
    obtain ⟨w, s7, g7, w7⟩ := bind_inv w6
    obtain ⟨k2, s8, g8, w8⟩ := bind_inv w7
    obtain ⟨g8', e8⟩ := opt_inv g8
    obtain ⟨rfl, e9⟩ := pure_inv w8
    have e7 := opd_same g7
    have es : s' = s6 := by rw [e9, e8, e7]
    subst es
    rw [e7] at g7
    exact .inr ⟨rfl, z, w, k2, g6, g7, g8', rfl⟩
theorem se_chain {o1 o2 : CmpOp} {a b d : E} (ha : SE p γ n S a) (hb : SE p γ n S b) (hd : SE p γ n S d) : SE p γ n S (.chain o1 o2 a b d) := fun X x c h => by
  simp only [chk] at h
  split at h
  case h_2 => cases h
  simp only [Bool.and_eq_true, decide_eq_true_eq] at h
  obtain ⟨⟨⟨⟨⟨⟨rfl, rfl⟩, h1⟩, h2⟩, h3⟩, h4⟩, h5⟩ := h
  have hu : X.A.units + 65 < cLine := by have := c.u; omega
  refine PE.imp (pe_chain (cmp_rule hu) (cmp_rule hu) (ha X _ c h1) (hb X _ c h2) (hd X _ c h3) (chain_marks h4 h5)) fun σ H Q q => ?_
  obtain ⟨B, s, r0, s', hv, F, en, k⟩ := q
  obtain ⟨x, s1, y, s2, u, v, kk, g1, g2, g3, g4, g5, hend⟩ := chain_inv hv
  refine tU_good g1 en fun x' H1 F1 q1 e1 rx => tU_good g2 e1 fun y' H2 F2 q2 e2 ry => ?_
  obtain ⟨_, tx⟩ := opd_ok e2 (rx.sub q2) g3
  obtain ⟨_, ty⟩ := fz_ok ry g4
  refine ⟨u, v, kk, g5, F2, e2.fh, tx, Rp.top e2.fh ty, fun z H3 F3 gr rr => ⟨kk, (show RpT X.K F3 H3 z (.bool kk) from rr).bl, ?_⟩⟩
  have e3 := e2.grow gr
  have q3 : Sub F F3 := q1.trans (q2.trans gr.ff)
  rcases hend with ⟨rfl, rfl, rfl⟩ | ⟨rfl, z', w, k2, g6, g7, g8, rfl⟩
  · rw [if_neg Bool.false_ne_true]
    exact k _ H3 F3 q3 e3 (.bl _)
  · rw [if_pos rfl]
    refine tU_good g6 e3 fun z'' H4 F4 q4 e4 rz => ?_
    obtain ⟨_, tz⟩ := opd_ok e4 rz g7
    exact ⟨v, w, k2, g8, F4, e4.fh, Rp.top e4.fh (Rp.sub (gr.ff.trans q4) ty), tz, want_of (q3.trans q4) e4 k⟩
theorem st_chain {o1 o2 : CmpOp} {a b d : E} (ha : SE p γ n S a) (hb : SE p γ n S b) (hd : SE p γ n S d) : ST p γ n S (.chain o1 o2 a b d) := fun X x c h => by
  simp only [chk] at h
  split at h
  case h_2 => cases h
  simp only [Bool.and_eq_true, decide_eq_true_eq] at h
  obtain ⟨⟨⟨⟨⟨⟨rfl, rfl⟩, h1⟩, h2⟩, h3⟩, h4⟩, h5⟩ := h
  have hu : X.A.units + 65 < cLine := by have := c.u; omega
  refine PT.imp (pt_chain (cmp_rule hu) (cmp_rule hu) (ha X _ c h1) (hb X _ c h2) (hd X _ c h3) (chain_marks h4 h5)) fun σ H Q q => ?_
  obtain ⟨B, s, r0, s', d0, b0, hv, q0, qt, F, en, k⟩ := q
  obtain ⟨x, s1, y, s2, u, v, kk, g1, g2, g3, g4, g5, hend⟩ := chain_inv hv
  refine tU_good g1 en fun x' H1 F1 q1 e1 rx => tU_good g2 e1 fun y' H2 F2 q2 e2 ry => ?_
  obtain ⟨_, tx⟩ := opd_ok e2 (rx.sub q2) g3
  obtain ⟨_, ty⟩ := fz_ok ry g4
  refine ⟨u, v, kk, g5, F2, e2.fh, tx, Rp.top e2.fh ty, fun z H3 F3 gr rr => ⟨kk, (show RpT X.K F3 H3 z (.bool kk) from rr).bl, ?_⟩⟩
  have e3 := e2.grow gr
  have q3 : Sub F F3 := q1.trans (q2.trans gr.ff)
  rcases hend with ⟨rfl, rfl, rfl⟩ | ⟨rfl, z', w, k2, g6, g7, g8, rfl⟩
  · rw [if_neg Bool.false_ne_true]
    injection q0 with q0 _
    subst q0
    cases qt
    exact ⟨false, rfl, k H3 F3 q3 e3⟩
  · rw [if_pos rfl]
    injection q0 with q0 _
    subst q0
    cases qt
    refine tU_good g6 e3 fun z'' H4 F4 q4 e4 rz => ?_
    obtain ⟨_, tz⟩ := opd_ok e4 rz g7
    exact ⟨v, w, b0, g8, F4, e4.fh, Rp.top e4.fh (Rp.sub (gr.ff.trans q4) ty), tz, fun z5 H5 F5 g5' rr5 => ⟨b0, (show RpT X.K F5 H5 z5 (.bool b0) from rr5).bl, k H5 F5 ((q3.trans q4).trans g5'.ff) (e4.grow g5')⟩⟩
/-! ### a conditional as a test -/
theorem pt_ifExp {X : Cx} {t a b : Expr} {pos : Pos} {tc ta tb : TT} (hc : PT X t tc) (ha : PT X a ta) (hb : PT X b tb) : PT X (.IfExp t a b pos) (fun σ H Q => tc σ H fun k H1 => if k = true then ta σ H1 Q else tb σ H1 Q) := by
  refine ⟨fun pins s σ H Q I h => ?_⟩
  show wpAny _ _ (do if ← isTrue t X.env (eval t X.env) then isTrue a X.env (eval a X.env) else isTrue b X.env (eval b X.env)) _ _ s
  refine wpAny_bind (thn (hc.run pins s σ H _ I h) fun d s1 ⟨H1, I1, q1⟩ => ?_)
  cases d with
  | true => exact ha.run pins s1 σ H1 Q I1 q1
  | false => exact hb.run pins s1 σ H1 Q I1 q1
theorem st_ite {t a b : E} (ht : ST p γ n S t) (ha : ST p γ n S a) (hb : ST p γ n S b) : ST p γ n S (.ite t a b) := fun X x c h => by
  simp only [chk] at h
  split at h
  case h_2 => cases h
  rw [Bool.and_eq_true, Bool.and_eq_true] at h
  refine PT.imp (pt_ifExp (ht X _ c h.1.1) (ha X _ c h.1.2) (hb X _ c h.2)) fun σ H Q q => ?_
  obtain ⟨B, s, r0, s', d0, b0, hv, h4, h5, F, en, k⟩ := q
  obtain ⟨r1, s1, g1, w1⟩ := bind_inv hv
  obtain ⟨u, s2, g2, w2⟩ := bind_inv w1
  obtain ⟨d, s3, g3, w3⟩ := bind_inv w2
  obtain ⟨g3', rfl⟩ := opt_inv g3
  obtain rfl := opd_same g2
  refine tUT_good g1 g2 g3' en fun H1 F1 q1 e1 => ?_
  split
  · rename_i hd
    rw [hd, if_pos rfl] at w3
    exact ⟨B, _, r0, s', d0, b0, w3, h4, h5, F1, e1, fun H2 F2 q2 e2 => k H2 F2 (q1.trans q2) e2⟩
  · rename_i hd
    rw [if_neg hd] at w3
    exact ⟨B, _, r0, s', d0, b0, w3, h4, h5, F1, e1, fun H2 F2 q2 e2 => k H2 F2 (q1.trans q2) e2⟩
/-! ### built-ins -/
theorem boot_ty (T : Ty) : bootBuiltins (PySem.Str.ofString T.name) = some (.type T.name) := by cases T <;> decide +kernel
theorem ty_in (T : Ty) : PySem.Str.ofString T.name ∈ bltNames := by cases T <;> decide +kernel
theorem ty_names (T : Ty) : PySem.Str.ofString T.name ≠ "__name__" ∧ (PySem.Str.ofString T.name == ("__debug__" : Str)) = false := by cases T <;> decide +kernel
theorem boot_isi : bootBuiltins "isinstance" = some (.builtin "isinstance") := by decide +kernel
theorem isi_rule {X : Cx} (T : Ty) : CallR X (.builtin "isinstance") fun xs H Q => ∃ d b, isiOp T d = some b ∧ ∃ F v, xs = [v, .ty T.name] ∧ Sub F H ∧ RpT X.K F H v d ∧ Q (.bl b) H :=
  fun pins s σ H xs us Q I r ⟨d, b, h, q⟩ => isi_ok h pins s σ H xs us Q I r q
theorem se_isi {T : Ty} {a : E} (ha : SE p γ n S a) : SE p γ n S (.isi T a) := fun X x c h => by
  simp only [chk] at h
  split at h
  case h_2 => cases h
  simp only [Bool.and_eq_true, decide_eq_true_eq] at h
  obtain ⟨⟨⟨⟨⟨rfl, h1⟩, rfl⟩, h3⟩, h4⟩, h5⟩ := h
  have hty : ∀ pos, PE X (.Name (PySem.Str.ofString T.name) pos) (tC (.ty T.name)) := fun pos => pe_bltn (gloB_ok rfl h4) (c.blt _ (ty_in T)) (boot_ty T) rfl (ty_names T).1 (ty_names T).2
  refine PE.imp (pe_callB (isi_rule T) (gloB_ok rfl h3) (c.blt _ (by decide +kernel)) boot_isi (pa_cons (ha X _ c h1) (pa_cons (hty _) pa_nil) (star_cons h5)) (by decide) (by decide) (star_cons h5) (star_plain (by rfl))) fun σ H Q q => ?_
  obtain ⟨B, s, r0, s', hv, F, en, k⟩ := q
  obtain ⟨r1, s1, g1, w1⟩ := bind_inv hv
  obtain ⟨u, s2, g2, w2⟩ := bind_inv w1
  obtain ⟨b, s3, g3, w3⟩ := bind_inv w2
  obtain ⟨g3', e3⟩ := opt_inv g3
  obtain ⟨rfl, e4⟩ := pure_inv w3
  have e2 := opd_same g2
  have es : s' = s1 := by rw [e4, e3, e2]
  subst es
  refine tU_good g1 en fun x H1 F1 q1 e1 rx => ?_
  obtain ⟨_, tx⟩ := opd_ok e1 rx g2
  exact ⟨u, b, g3', F1, x, rfl, e1.fh, tx, k _ H1 F1 q1 e1 (.bl _)⟩
def bltIsTy : Blt → Bool
  | .int => true | .list => true | .tuple => true | _ => false
theorem blt_facts (b : Blt) : bltName b ∈ bltNames ∧ bltName b ≠ "__name__" ∧ (bltName b == ("__debug__" : Str)) = false ∧ bootBuiltins (bltName b) = some (bltVal b) := by
  cases b <;> decide +kernel
theorem blt_rule {X : Cx} (b : Blt) (hc : X.calm = true) (hu : X.A.units + 70 < cLine) : CallR X (bltVal b) fun xs H Q => ∃ us r, bltOp b us = some r ∧ ∃ F, Sub F H ∧ RTs X.K F H xs us ∧ Want X.K F H r Q :=
  fun pins s σ H xs us Q I rx ⟨u, r, h, q⟩ => blt_ok hc hu h pins s σ H xs us Q I rx q
theorem pe_bltV {X : Cx} {b : Blt} {f : Str} {pp pos : Pos} {e : Expr} {es : List Expr} {t : TA} {r : List V → Hp → VK → Prop} (hr : CallR X (bltVal b) r) (hf : f = bltName b) (hg : Gl X f) (hm : X.mg f = none) (ha : PA X (e :: es) t) (he : starEach (e :: es) X.env = (false, eval e X.env) :: starEach es X.env)
    (hpl : (backTo pos (starEach es X.env)).any (·.1) = false) : PE X (.Call (.Name f pp) (e :: es) [] pos) (tCB r t) := by
  obtain ⟨_, h2, h3, h4⟩ := blt_facts b
  subst hf
  cases b <;> first | exact pe_callB hr hg hm h4 ha h2 h3 he hpl | exact pe_callTy hr hg hm h4 ha h2 h3 he hpl
theorem se_blt {b : Blt} {es : List E} (hs : SEs p γ n S es) : SE p γ n S (.blt b es) := fun X x c h => by
  simp only [chk] at h
  split at h
  case h_2 => cases h
  rename_i f pp ys pos
  simp only [Bool.and_eq_true, decide_eq_true_eq] at h
  obtain ⟨⟨⟨⟨hf, h1⟩, h2⟩, h3⟩, h4⟩ := h
  cases ys with
  | nil => simp at h4
  | cons y ys =>
    have h3' := h3
    rw [List.all_cons, Bool.and_eq_true] at h3'
    refine PE.imp (pe_bltV (blt_rule b c.calm (by have := c.u; omega)) hf (gloB_ok rfl h1) (c.blt _ (by rw [hf]; exact (blt_facts b).1)) (hs X _ c h2 h3) (star_cons h3'.1) (star_plain h3'.2)) fun σ H Q q => ?_
    obtain ⟨B, s, r0, s', hv, F, en, k⟩ := q
    obtain ⟨rs, s1, g1, w1⟩ := bind_inv hv
    obtain ⟨ds, s2, g2, w2⟩ := bind_inv w1
    obtain ⟨g3, e3⟩ := opt_inv w2
    refine ⟨B, s, rs, s1, g1, F, en, fun vs H1 F1 q1 e1 rv => ?_⟩
    obtain ⟨e2, tv⟩ := opds_ok e1 rv g2
    have es : s' = s1 := by rw [e3, e2]
    subst es
    exact ⟨ds, r0, g3, F1, e1.fh, tv, want_of q1 e1 k⟩
/-! ### methods -/
theorem baseKw {cpos : Pos} {env : PySem.Env} {e : Expr} (h : notStar e = true) : ((backTo cpos (starEach [e] env)).all (fun x => !x.1) && (backToKw cpos (keywordEach [] env)).all (fun x => x.1.isSome)
      && decide (([e] : List Expr).length + ([] : List Keyword).length + (if ([] : List Keyword).isEmpty then 0 else 1) < 30)) = true := by
  rw [star_cons h]; rfl
theorem mth_tup {m : Mth} {u : PV} {us : List PV} {r : Rv} (hl : isListV u = false) (h : mthOp m u us = some r) : ∃ ds, u = .tuple ds := by
  cases u with
  | tuple ds => exact ⟨ds, rfl⟩
  | list ds => cases hl
  | _ => cases m <;> cases h
theorem mth_rule {X : Cx} (m : Mth) (hu : X.A.units + 70 < cLine) : MtR X (mthName m).2.2 fun x xs H Q => ∃ u us r, isListV u = true ∧ mthOp m u us = some r ∧ ∃ F, Sub F H ∧ RpT X.K F H x u ∧ RTs X.K F H xs us ∧ Want X.K F H r Q :=
  fun pins s σ H x xs v us Q I rx rxs ⟨u, us', r, hl, h, q⟩ => mth_ok hu hl h pins s σ H x xs v us Q I rx rxs q
theorem mth_ruleT {X : Cx} (m : Mth) : MtR X (mthNameT m) fun x xs H Q => ∃ ds us r, mthOp m (.tuple ds) us = some r ∧ ∃ F, Sub F H ∧ RpT X.K F H x (.tuple ds) ∧ RTs X.K F H xs us ∧ Want X.K F H r Q :=
  fun pins s σ H x xs v us Q I rx rxs ⟨u, us', r, h, q⟩ => mthT_ok h pins s σ H x xs v us Q I rx rxs q
/-- a method of a list or of a tuple -/
def tMthA (K : Frag) (rL rT : V → List V → Hp → VK → Prop) (to : TE) (t : TA) : TE := fun σ H Q => to σ H fun x H1 => (tyV K "list" x H1 ∧ t σ H1 fun vs H2 => rL x vs H2 Q) ∨ ((∃ a xs, x = .ref a ∧ TupN K H1 a xs) ∧ t σ H1 fun vs H2 => rT x vs H2 Q)
theorem tupN_is {X : Cx} {pins : List (Addr × Obj)} {σ : L2.St} {H : Hp} {s : Shared} {a : Addr} {xs : List V} (I : L2.Inv X pins σ H s) (h : TupN X.K H a xs) : s.TypeIs (.ref a) "tuple" ∧ ∀ b, Value.ref a = .ref b → ∃ ob, s.heap.get? b = some ob ∧ ob.dict = none := by
  obtain ⟨its, _, ht, _⟩ := I.tuple h.sqt
  refine ⟨ht.typeIs, fun b e => ?_⟩
  cases e
  rcases h with ⟨o, h, d⟩ | ⟨o, _, _, h, _, d, _⟩
  · obtain ⟨e, _⟩ := I.hok a _ h
    exact ⟨o, e, d⟩
  · exact ⟨o, I.kIn a o h, d⟩
theorem pe_mthA {X : Cx} {m : Mth} {nm : Str} {o e : Expr} {apos cpos : Pos} {rL rT : V → List V → Hp → VK → Prop} {to : TE} {t : TA} (hL : MtR X (mthName m).2.2 rL) (hT : MtR X (mthNameT m) rT) (hn : nm = mthNm m) (ho : PE X o to) (ha : PA X [e] t)
    (hb : baseOk o = true) (hl : apos.endLine = cpos.line) (hs : notStar e = true) : PE X (.Call (.Attribute o nm apos) [e] [] cpos) (tMthA X.K rL rT to t) := by
  subst hn
  refine ⟨fun pins s σ H Q I h => ?_⟩
  refine wpAny_Call_method_late (baseOk_base hb) (baseKw hs) (by rw [hl]; exact beq_self_eq_true _) rfl (thn (ho.run pins s σ H _ I h) fun v s1 ⟨x, H1, I1, r1, q⟩ => ?_)
  have fin : ∀ {id : String} {r : V → List V → Hp → VK → Prop}, MtR X id r → (t σ H1 fun vs H2 => r x vs H2 Q) → wpAny (model X.prog X.w) X.A (callWith cpos (.builtin id) [v] (backTo cpos (starEach [e] X.env)) (backToKw cpos (keywordEach [] X.env))) (EP X pins σ Q) X.xe s1 := by
    intro id r hm qt
    have hA := ha.run cpos pins s1 σ H1 _ I1 qt
    rw [star_cons hs] at hA ⊢
    exact Calls.callWith_builtin rfl (Calls.evalArgs_plain (thn hA fun us s2 ⟨vs, H2, I2, r2, q2⟩ => hm pins s2 σ H2 x vs v us Q I2 r1 r2 q2))
  rcases q with ⟨ty, q⟩ | ⟨⟨a, xs, ex, ht⟩, q⟩
  · obtain ⟨h1, h2⟩ := tyV_is I1 r1 ty
    cases m with
    | count => exact ⟨"list", _, PySem.F.plainAttrs_list, PySem.F.slot_list_count, PySem.F.type_list_count, h1, h2, fin hL q⟩
    | index => exact ⟨"list", _, PySem.F.plainAttrs_list, PySem.F.slot_list_index, PySem.F.type_list_index, h1, h2, fin hL q⟩
  · subst ex
    obtain rfl : v = .ref a := r1
    obtain ⟨h1, h2⟩ := tupN_is I1 ht
    cases m with
    | count => exact ⟨"tuple", _, PySem.F.plainAttrs_tuple, PySem.F.slot_tuple_count, PySem.F.type_tuple_count, h1, h2, fin hT q⟩
    | index => exact ⟨"tuple", _, PySem.F.plainAttrs_tuple, PySem.F.slot_tuple_index, PySem.F.type_tuple_index, h1, h2, fin hT q⟩
theorem se_mth {m : Mth} {o : E} {es : List E} (ho : SE p γ n S o) (hs : SEs p γ n S es) : SE p γ n S (.mth m o es) := fun X x c h => by
  simp only [chk] at h
  split at h
  case h_2 => cases h
  rename_i o' nm apos ys cpos
  simp only [Bool.and_eq_true, decide_eq_true_eq] at h
  obtain ⟨⟨⟨⟨⟨⟨hn, h1⟩, h2⟩, h3⟩, h4⟩, h5⟩, h6⟩ := h
  match ys, h6, h2, h3 with
  | [y], _, h2, h3 =>
    have h3' := h3
    rw [List.all_cons, Bool.and_eq_true] at h3'
    refine PE.imp (pe_mthA (mth_rule m (by have := c.u; omega)) (mth_ruleT m) hn (ho X _ c h1) (hs X _ c h2 h3) h4 h5 h3'.1) fun σ H Q q => ?_
    obtain ⟨B, s, r0, s', hv, F, en, k⟩ := q
    obtain ⟨r1, s0, g0, w0⟩ := bind_inv hv
    obtain ⟨u0, s0', gu, w0'⟩ := bind_inv w0
    have eu := opd_same gu
    subst eu
    split at w0'
    case isFalse => cases w0'
    rename_i hl0
    obtain ⟨rs, s1, g1, w1⟩ := bind_inv w0'
    obtain ⟨u, s2, g2, w2⟩ := bind_inv w1
    obtain ⟨ds, s3, g3, w3⟩ := bind_inv w2
    obtain ⟨g4, e4⟩ := opt_inv w3
    split at g4
    case isFalse => cases g4
    rename_i hsame
    refine tU_good g0 en fun x H1 F1 q1 e1 rx => ?_
    obtain ⟨_, tx0⟩ := opd_ok e1 rx gu
    cases u0 with
    | list ds0 =>
      left
      obtain ⟨a, vs, rfl, ha, _⟩ := tx0.lst
      refine ⟨.inl ⟨rfl, vs, .inl ha⟩, B, _, rs, s1, g1, F1, e1, fun vs H2 F2 q2 e2 rv => ?_⟩
      obtain ⟨e5, tx⟩ := opd_ok e2 (rx.sub q2) g2
      subst e5
      obtain ⟨e6, tv⟩ := opds_ok e2 rv g3
      have es : s' = _ := e4.trans e6
      subst es
      exact ⟨u, ds, r0, by simpa [isListV] using hsame, g4, F2, e2.fh, tx, tv, want_of (q1.trans q2) e2 k⟩
    | tuple ds0 =>
      right
      obtain ⟨a, vs, rfl, ha, _⟩ := tx0.tupN
      refine ⟨⟨a, vs, rfl, TupN.sub e1.fh ha⟩, B, _, rs, s1, g1, F1, e1, fun vs H2 F2 q2 e2 rv => ?_⟩
      obtain ⟨e5, tx⟩ := opd_ok e2 (rx.sub q2) g2
      subst e5
      obtain ⟨e6, tv⟩ := opds_ok e2 rv g3
      have es : s' = _ := e4.trans e6
      subst es
      obtain ⟨ds', rfl⟩ := mth_tup (by simpa [isListV] using hsame) g4
      exact ⟨ds', ds, r0, g4, F2, e2.fh, tx, tv, want_of (q1.trans q2) e2 k⟩
    | _ => cases hl0
/-! ### calls of own defs -/
theorem passN {X : Cx} : Passes (CX X.prog X.w) X (fun _ _ _ => False) := passes_call (W := fun _ _ _ _ => False) takes_none5 fun _ _ _ _ h => h
theorem se_call {f : Nat} {es : List E} (hs : SEs p γ n S es) : SE p γ n S (.call f es) := fun X x c h => by
  simp only [chk] at h
  split at h
  case h_2 => cases h
  rename_i y pp ys pos
  simp only [Bool.and_eq_true, decide_eq_true_eq] at h
  obtain ⟨⟨⟨⟨⟨⟨hf, hgd⟩, h1⟩, h2⟩, h3⟩, h4⟩, h5⟩ := h
  obtain ⟨fa, fd, ps, hm, hk, hb, F⟩ := c.fn f y hf (by simpa using hgd)
  cases ys with
  | nil => simp at h5
  | cons z zs =>
    have h4' := h4
    rw [List.all_cons, Bool.and_eq_true] at h4'
    refine PE.imp (pe_call F c.room (gloB_ok rfl h1) hm hk hb .nil passN (hs X _ c h3 h4) (plainName_ok h2).1 (star_cons h4'.1) (star_plain h4'.2)) fun σ H Q q => ?_
    obtain ⟨B, s, r0, s', hv, F0, en, k⟩ := q
    obtain ⟨rs, s1, g1, w1⟩ := bind_inv hv
    have w1 : callFn (p.cf n) f rs s1 = .ok r0 s' := w1
    obtain ⟨pq, s2, g2, w2⟩ := bind_inv w1
    refine ⟨B, s, rs, s1, g1, F0, en, fun vs H1 F1 q1 e1 rv => ?_⟩
    obtain ⟨e2, as, ar, lr⟩ := passArgs_ok e1 rv g2
    subst e2
    split at w2
    · rename_i nd
      obtain ⟨ro, s3, g3, w3⟩ := bind_inv w2
      obtain ⟨g3', e3⟩ := opt_inv g3
      subst e3
      obtain ⟨_, s4, g4, w4⟩ := bind_inv w3
      obtain ⟨e5, e6⟩ := pure_inv w4
      subst e5
      subst e6
      refine ⟨F1, pq.1, as, e1.fh, e1.tab, e1.ftb, by rw [List.append_nil]; exact ar, lr.nodup e1 nd, .inl ⟨ro.1, ro.2, g3', fun v F' H' po => ?_⟩⟩
      obtain ⟨e7, r7⟩ := e1.called lr nd g4 po
      exact k v H' F' (q1.trans po.ff) e7 r7
    · cases w2
theorem noX_inv {α : Type} {m : M α} {a : α} {s s' : Ev.Env} (h : noX m s = .ok a s') : m s = .ok a s' := by
  unfold noX at h
  split at h
  · rename_i g
    cases h
    exact g
  · cases h
theorem callX_inv {c : Cf} {f : Nat} {vs : List PV} {r : Rv} {s s' : Ev.Env} (h : callX c f vs s = .ok r s') : c.lent f = [] ∧ c.Φ f vs = some (r, []) ∧ s' = s := by
  unfold callX at h
  split at h
  · rename_i hl
    refine ⟨hl, ?_⟩
    split at h
    · rename_i g
      cases h
      exact ⟨g, rfl⟩
    · cases h
    · split at h <;> cases h
  · cases h
theorem argsR_all {F H : Hp} : ∀ {vs : List V} {ds : List PV} (k : Nat), RpAll K F vs ds → ArgsR K F H [] k vs ds []
  | _, _, _, .nil => .nil
  | _, _, k, .cons r t => .val rfl r (argsR_all (k + 1) t)
theorem lookFn_inv {i f : Nat} {s s' : Ev.Env} (h : lookFn i s = .ok f s') : s' = s ∧ s[i]? = some (.fn f) := by
  unfold lookFn at h
  split at h
  · rename_i g
    cases h
    exact ⟨rfl, g⟩
  · cases h
theorem post_env {B : Bs} {F H F' H' : Hp} {σ : L2.St} {s : Ev.Env} {r : Rv} {v : V} (en : EnvR K γ B F H σ s) (po : Post K γ F H [] [] r v F' H') : EnvR K γ B F' H' σ s ∧ RvR K B F' H' σ s v r :=
  en.called (is := []) (as := []) (os := []) .nil List.nodup_nil rfl po
theorem fn_at {X : Cx} (c : XC p γ n S X) {f : Nat} {fa : Addr} (h : γ.fs f = some fa) : ∃ x fd ps, S.fns[f]? = some x ∧ X.mg x = some (.ref fa) ∧ PySem.W.keepIn X.K (.ref fa) = true ∧ Binds X.K fd ps [] ∧ FnOk X.prog X.w X.K X.mg X.base (CX X.prog X.w) (5 * n) fa fd ps (spF X.K γ p n f) := by
  obtain ⟨x, hx, hgd⟩ := c.fsN f fa h
  obtain ⟨fa', fd, ps, h1, h2, h3, h4⟩ := c.fn f x hx hgd
  obtain ⟨fa2, h5, h6⟩ := c.fs f x hx hgd
  rw [h] at h6
  cases h6
  rw [h1] at h5
  cases h5
  exact ⟨x, fd, ps, hx, h1, h2, h3, h4⟩
/-- a call of a local name that holds a def -/
def tCallV (K : Frag) (γ : Gt) (p : Prg) (n i : Nat) (E : XK) (t : TA) : TE := fun σ H Q => ∃ f fa, σ[i]? = some (some (.ref fa)) ∧ γ.fs f = some fa ∧ t σ H fun vs H1 => spF K γ p n f vs H1 Q E
theorem pe_callV {X : Cx} (c : XC p γ n S X) {i : Nat} {x : Str} {pp pos : Pos} {e : Expr} {es : List Expr} {t : TA} {E : XK} (hN : X.N[i]? = some x) (hv : Vis X.env.scope x) (hx : Passes (CX X.prog X.w) X E) (ha : PA X (e :: es) t)
    (hdb : (x == ("__debug__" : Str)) = false) (hcd : (x == ("__classdict__" : Str)) = false)
    (he : starEach (e :: es) X.env = (false, eval e X.env) :: starEach es X.env) (hpl : (backTo pos (starEach es X.env)).any (·.1) = false) : PE X (.Call (.Name x pp) (e :: es) [] pos) (tCallV X.K γ p n i E t) := by
  refine ⟨fun pins s σ H Q I h => ?_⟩
  obtain ⟨f, fa, hs, hf, ht⟩ := h
  obtain ⟨y, fd, ps, _, _, hk, hb, F⟩ := fn_at c hf
  refine (pe_callL (i := i) (f := fa) (dvs := []) (E := E) F c.room hN hv hk hb .nil hx ha hdb hcd he hpl).run pins s σ H Q I ⟨hs, ?_⟩
  have e0 : (fun (vs : List V) (H1 : Hp) => spF X.K γ p n f (vs ++ []) H1 Q E) = fun vs H1 => spF X.K γ p n f vs H1 Q E := by
    funext vs H1
    rw [List.append_nil]
  rw [e0]
  exact ht
theorem cf_lent {f : Nat} : (p.cf n).lent f = p.lent f := rfl
theorem se_callv {i : Nat} {es : List E} (hs : SEs p γ n S es) : SE p γ n S (.callv i es) := fun X x c h => by
  simp only [chk] at h
  split at h
  case h_2 => cases h
  rename_i y pp ys pos
  simp only [Bool.and_eq_true] at h
  obtain ⟨⟨⟨hn, h3⟩, h4⟩, h5⟩ := h
  unfold nameB at hn
  simp only [Bool.and_eq_true, decide_eq_true_eq] at hn
  obtain ⟨⟨hN, hv⟩, hpn⟩ := hn
  cases ys with
  | nil => simp at h5
  | cons z zs =>
    have h4' := h4
    rw [List.all_cons, Bool.and_eq_true] at h4'
    refine PE.imp (pe_callV c (by rw [c.hN]; exact hN) (visB_ok hv) passN (hs X _ c h3 h4) (plainName_ok hpn).1 (plainName_ok hpn).2 (star_cons h4'.1) (star_plain h4'.2)) fun σ H Q q => ?_
    obtain ⟨B, s, r0, s', hv, F0, en, k⟩ := q
    obtain ⟨f, s1, g1, w1⟩ := bind_inv hv
    obtain ⟨rfl, hf⟩ := lookFn_inv g1
    obtain ⟨rs, s2, g2, w2⟩ := bind_inv w1
    obtain ⟨vs, s3, g3, w3⟩ := bind_inv w2
    obtain ⟨hl, hΦ, e4⟩ := callX_inv (noX_inv w3)
    obtain ⟨fa, ha, hfa⟩ := en.slot i _ hf
    refine ⟨f, fa, ha, hfa, B, s1, rs, s2, g2, F0, en, fun us H1 F1 q1 e1 rv => ?_⟩
    obtain ⟨e3, ra⟩ := fzs_ok rv g3
    subst e3
    subst e4
    rw [cf_lent] at hl
    refine ⟨F1, vs, [], e1.fh, e1.tab, e1.ftb, by rw [hl]; exact argsR_all 0 ra, List.nodup_nil, .inl ⟨r0, [], hΦ, fun v F' H' po => ?_⟩⟩
    obtain ⟨e7, r7⟩ := post_env e1 po
    exact k v H' F' (q1.trans po.ff) e7 r7
end
end Ev

/-! Ev14: targets, what is walked, comprehensions. -/
namespace Ev
open PySem PySem.Spec L2
section
variable {p : Prg} {n : Nat} {S : Sx} {K : Frag} {γ : Gt} {c : Cf}
theorem len_two {α : Type} : ∀ {l : List α}, l.length = 2 → ∃ a b, l = [a, b]
  | [a, b], _ => ⟨a, b, rfl⟩
  | [], h => by simp at h
  | [_], h => by simp at h
  | _ :: _ :: _ :: _, h => by simp at h
theorem evs_len {c : Cf} : ∀ {es : List E} {s s' : Env} {rs : List Rv}, evs c es s = .ok rs s' → rs.length = es.length
  | [], _, _, _, h => by obtain ⟨rfl, _⟩ := pure_inv h; rfl
  | e :: es, _, _, _, h => by
    obtain ⟨r1, t1, f1, v1⟩ := bind_inv h
    obtain ⟨rs2, t2, f2, v2⟩ := bind_inv v1
    obtain ⟨rfl, _⟩ := pure_inv v2
    simp [evs_len f2]
theorem fzs_len : ∀ {rs : List Rv} {s s' : Env} {ds : List PV}, fzs rs s = .ok ds s' → ds.length = rs.length
  | [], _, _, _, h => by obtain ⟨rfl, _⟩ := pure_inv h; rfl
  | e :: es, _, _, _, h => by
    obtain ⟨r1, t1, f1, v1⟩ := bind_inv h
    obtain ⟨rs2, t2, f2, v2⟩ := bind_inv v1
    obtain ⟨rfl, _⟩ := pure_inv v2
    simp [fzs_len f2]
theorem fzs_same : ∀ {rs : List Rv} {s s' : Env} {ds : List PV}, fzs rs s = .ok ds s' → s' = s
  | [], _, _, _, h => (pure_inv h).2
  | e :: es, _, _, _, h => by
    obtain ⟨r1, t1, f1, v1⟩ := bind_inv h
    obtain ⟨rs2, t2, f2, v2⟩ := bind_inv v1
    obtain ⟨_, e2⟩ := pure_inv v2
    rw [e2, fzs_same f2, fz_same f1]
theorem chks_len {sc : Scope} : ∀ {es : List E} {xs : List Expr}, chks S sc es xs = true → es.length = xs.length
  | [], xs, h => by cases xs <;> first | rfl | (simp [chks] at h)
  | e :: es, [], h => by simp [chks] at h
  | e :: es, x :: xs, h => by
    simp only [chks, Bool.and_eq_true] at h
    simp [chks_len h.2]
theorem seq_range {lo hi : Int} {F : Hp} : ∀ {m : Nat}, m = (hi - lo).toNat → RpAll K F (rgV lo hi) ((List.range m).map fun i => .int (lo + (i : Nat))) := by
  intro m e
  subst e
  have := RpAll.ofInts (K := K) (F := F) ((List.range (hi - lo).toNat).map fun i => lo + (i : Nat))
  rw [List.map_map, List.map_map] at this
  exact this
theorem rng_inv {vs xs : List PV} (h : rngItems vs = some xs) : (∃ n : Int, vs = [.int n] ∧ -(2 ^ 62) ≤ n ∧ n ≤ 16777216 ∧ xs = (List.range n.toNat).map fun i => .int (i : Nat)) ∨
    ∃ lo hi : Int, vs = [.int lo, .int hi] ∧ -(2 ^ 62) ≤ lo ∧ lo < 2 ^ 62 ∧ hi - lo ≤ 16777216 ∧ -(2 ^ 62) ≤ hi ∧ hi < 2 ^ 62 ∧ xs = (List.range (hi - lo).toNat).map fun i => .int (lo + (i : Nat)) := by
  unfold rngItems at h
  split at h
  · split at h
    · rename_i n hb
      cases h
      exact .inl ⟨n, rfl, hb.1, hb.2, rfl⟩
    · cases h
  · split at h
    · rename_i lo hi hb
      cases h
      exact .inr ⟨lo, hi, rfl, hb.1, hb.2.1, hb.2.2.1, hb.2.2.2.1, hb.2.2.2.2, rfl⟩
    · cases h
  · cases h
theorem chks_cons {sc : Scope} {es : List E} {y : Expr} {ys : List Expr} (h : chks S sc es (y :: ys) = true) : ∃ e es', es = e :: es' ∧ chk S sc e y = true ∧ chks S sc es' ys = true := by
  cases es with
  | nil => simp [chks] at h
  | cons e es => simp only [chks, Bool.and_eq_true] at h; exact ⟨e, es, rfl, h.1, h.2⟩
theorem chks_nil {sc : Scope} {es : List E} (h : chks S sc es [] = true) : es = [] := by
  cases es with
  | nil => rfl
  | cons e es => simp [chks] at h
theorem se_lrng {es : List E} (he : ∀ e ∈ es, SE p γ n S e) : SE p γ n S (.lrng es) := fun X x c h => by
  simp only [chk] at h
  split at h
  case h_2 => cases h
  rename_i f pf g pg ys pos1 pos2
  simp only [Bool.and_eq_true, decide_eq_true_eq, Bool.or_eq_true] at h
  obtain ⟨⟨⟨⟨⟨⟨rfl, rfl⟩, h1⟩, h2⟩, h3⟩, h4⟩, h5⟩ := h
  have hl : X.mg "list" = none := c.blt _ (by decide +kernel)
  have hr : X.mg "range" = none := c.blt _ (by decide +kernel)
  rcases h5 with h5 | h5
  · obtain ⟨y, rfl⟩ := List.length_eq_one_iff.mp h5
    obtain ⟨e, es', rfl, h6, h7⟩ := chks_cons h3
    obtain rfl := chks_nil h7
    have hy : notStar y = true := by simpa using h4
    refine PE.imp (pe_listRg c.calm (gloB_ok rfl h1) hl (prg_1 (gloB_ok rfl h2) hr (he e (by simp) X y c h6) (star_cons hy))) fun σ H Q q => ?_
    obtain ⟨B, s, r0, s', hv, F, en, k⟩ := q
    obtain ⟨rs, s1, g1, w1⟩ := bind_inv hv
    obtain ⟨r1, t1, f1, v1⟩ := bind_inv g1
    obtain ⟨rs2, t2, f2, v2⟩ := bind_inv v1
    obtain ⟨e5, e6⟩ := pure_inv f2
    subst e5 e6
    obtain ⟨e5, e6⟩ := pure_inv v2
    subst e5 e6
    obtain ⟨ds, s2, g2, w2⟩ := bind_inv w1
    obtain ⟨xs, s3, g3, w3⟩ := bind_inv w2
    obtain ⟨g3', e3⟩ := opt_inv g3
    obtain ⟨e5, e4⟩ := pure_inv w3
    subst e5
    refine tU_good f1 en fun v H1 F1 q1 e1 rv => ?_
    obtain ⟨e2, ra⟩ := fzs_ok (.cons rv .nil) g2
    have es' : s' = s1 := by rw [e4, e3, e2]
    subst es'
    rcases rng_inv g3' with ⟨m, rfl, b1, b2, rfl⟩ | ⟨lo, hi, rfl, _⟩
    · obtain ⟨v', ws, e5, r5, r6⟩ := ra.cons_inv
      cases e5
      cases r5
      have hz : (2 ^ 24 : Nat) = 16777216 := by decide
      refine ⟨m, rfl, ⟨by decide, by decide, b1, by omega, by omega⟩, ?_⟩
      refine (want_of q1 e1 k).lst e1.fh ?_
      have := seq_range (K := X.K) (F := F1) (lo := 0) (hi := m) rfl
      simpa using this
    · have := ra.length; simp at this
  · obtain ⟨y, z, rfl⟩ := len_two h5
    obtain ⟨e, es', rfl, h6, h7⟩ := chks_cons h3
    obtain ⟨e', es', rfl, h8, h9⟩ := chks_cons h7
    obtain rfl := chks_nil h9
    have hy : notStar y = true ∧ notStar z = true := by simpa using h4
    refine PE.imp (pe_listRg c.calm (gloB_ok rfl h1) hl (prg_2 (gloB_ok rfl h2) hr (he e (by simp) X y c h6) (he e' (by simp) X z c h8) (star_cons hy.1) (star_cons hy.2) (star_plain (by simpa using hy.2)))) fun σ H Q q => ?_
    obtain ⟨B, s, r0, s', hv, F, en, k⟩ := q
    obtain ⟨rs, s1, g1, w1⟩ := bind_inv hv
    obtain ⟨r1, t1, f1, v1⟩ := bind_inv g1
    obtain ⟨rs2, t2, f2, v2⟩ := bind_inv v1
    obtain ⟨r3, t3, f3, v3⟩ := bind_inv f2
    obtain ⟨rs4, t4, f4, v4⟩ := bind_inv v3
    obtain ⟨e5, e6⟩ := pure_inv f4
    subst e5 e6
    obtain ⟨e5, e6⟩ := pure_inv v4
    subst e5 e6
    obtain ⟨e5, e6⟩ := pure_inv v2
    subst e5 e6
    obtain ⟨ds, s2, g2, w2⟩ := bind_inv w1
    obtain ⟨xs, s3, g3, w3⟩ := bind_inv w2
    obtain ⟨g3', e3⟩ := opt_inv g3
    obtain ⟨e5, e4⟩ := pure_inv w3
    subst e5
    refine two (R := fun x y H2 => ∃ i j, x = .int i ∧ y = .int j ∧ RgOk i j ∧ ∀ q, H2 q = none → Q (.ref q) (upd H2 q (.lst (rgV i j)))) f1 f3 en fun v w H1 F1 q1 e1 rv rw' => ?_
    obtain ⟨e2, ra⟩ := fzs_ok (.cons rv (.cons rw' .nil)) g2
    have es' : s' = s1 := by rw [e4, e3, e2]
    subst es'
    rcases rng_inv g3' with ⟨m, rfl, b1, b2, rfl⟩ | ⟨lo, hi, rfl, b1, b2, b3, b4, b5, rfl⟩
    · have := ra.length; simp at this
    · obtain ⟨v', ws, e5, r5, r6⟩ := ra.cons_inv
      cases e5
      cases r5
      obtain ⟨w', ws', e6, r7, r8⟩ := r6.cons_inv
      cases e6
      cases r7
      have hz : (2 ^ 24 : Nat) = 16777216 := by decide
      exact ⟨lo, hi, rfl, rfl, ⟨b1, b2, b4, b5, by omega⟩, (want_of q1 e1 k).lst e1.fh (seq_range rfl)⟩
/-! ### what is walked -/
def tUI (K : Frag) (γ : Gt) (c : Cf) (k : ItK) (es : List E) : TI := fun σ H R => ∃ B s rs s' ds xs, evs c es s = .ok rs s' ∧ fzs rs s' = .ok ds s' ∧ items k ds = some xs ∧
  ∃ F, EnvR K γ B F H σ s ∧ ∀ J H' F', Sub F F' → EnvR K γ B F' H' σ s' → WalkD K k.w F' J xs → R J H'
theorem si_all {k : ItK} {es : List E} (he : ∀ e ∈ es, SE p γ n S e) (hs : SEs p γ n S es) {X : Cx} {tg x : Expr} {ys : List Expr} (c : XC p γ n S X) (h : itArgs X.env.scope k tg x = some ys) (hc : chks S X.env.scope es ys = true) : PI X tg x (tUI X.K γ (p.cf n) k es) := by
  cases k with
  | val =>
    cases h
    obtain ⟨e, es', rfl, h6, h7⟩ := chks_cons hc
    obtain rfl := chks_nil h7
    have pe := he e (by simp) X x c h6
    -- a list or a tuple
    refine ⟨fun pins s σ H R I q => ?_⟩
    obtain ⟨B, s0, rs, s', ds, xs, g1, g2, g3, F, en, kk⟩ := q
    obtain ⟨r1, t1, f1, v1⟩ := bind_inv g1
    obtain ⟨rs2, t2, f2, v2⟩ := bind_inv v1
    obtain ⟨e5, e6⟩ := pure_inv f2
    subst e5 e6
    obtain ⟨e5, e6⟩ := pure_inv v2
    subst e5 e6
    obtain ⟨d, t3, f3, v3⟩ := bind_inv g2
    obtain ⟨ds2, t4, f4, v4⟩ := bind_inv v3
    obtain ⟨e5, e6⟩ := pure_inv f4
    subst e5
    obtain ⟨e5, e7⟩ := pure_inv v4
    subst e5
    have g3 : seq? d = some xs := g3
    cases d with
    | list es' =>
      cases g3
      refine (pi_list (tg := tg) (PE_sized pe)).run pins s σ H R I (tU_good f1 en fun v H1 F1 q1 e1 rv => ?_)
      obtain ⟨_, rd⟩ := fz_ok rv f3
      cases rd with
      | lst a b => exact fun hz => ⟨_, rfl, ⟨_, SqL.sub e1.fh (.inl a)⟩, kk _ H1 F1 q1 e1 (walkD_list (.inl a) b (hz _ _ rfl (.inl (SqL.sub e1.fh (.inl a)))))⟩
    | tuple es' =>
      cases g3
      refine (pi_tup (tg := tg) (PE_sized pe)).run pins s σ H R I (tU_good f1 en fun v H1 F1 q1 e1 rv => ?_)
      obtain ⟨_, rd⟩ := fz_ok rv f3
      cases rd with
      | tup a' b => have a := a'.sqt; exact fun hz => ⟨_, rfl, ⟨_, SqT.sub e1.fh a⟩, kk _ H1 F1 q1 e1 (walkD_tup a b (hz _ _ rfl (.inr (SqT.sub e1.fh a))))⟩
    | _ => cases g3
  | rng =>
    unfold itArgs at h
    simp only at h
    split at h
    case h_2 => cases h
    split at h
    case isFalse => cases h
    rename_i f pf zs pos hf
    cases h
    obtain ⟨rfl, h1, h2, h3⟩ := hf
    have hr : X.mg "range" = none := c.blt _ (by decide +kernel)
    have pa := hs X _ c hc h2
    rcases h3 with h3 | h3
    · obtain ⟨y, rfl⟩ := List.length_eq_one_iff.mp h3
      have hy : notStar y = true := by simpa using h2
      refine PI.imp (pi_range1 (gloB_ok rfl h1) hr pa (star_cons hy)) fun σ H R q => ?_
      obtain ⟨B, s0, rs, s', ds, xs, g1, g2, g3, F, en, kk⟩ := q
      refine ⟨B, s0, rs, s', g1, F, en, fun vs H1 F1 q1 e1 rv => ?_⟩
      obtain ⟨_, ra⟩ := fzs_ok rv g2
      rcases rng_inv g3 with ⟨m, rfl, b1, b2, rfl⟩ | ⟨lo, hi, rfl, _⟩
      · obtain ⟨v', ws, rfl, r5, r6⟩ := ra.cons_inv
        cases r5
        obtain rfl := r6.nil_inv
        refine ⟨m, rfl, b1, by omega, kk _ H1 F1 q1 e1 ?_⟩
        have := walkD_range (K := X.K) (F1 := F1) (lo := 0) (n := m.toNat) (by rw [sizeLine_eq]; omega)
        show WalkD X.K false F1 _ _
        simpa using this
      · obtain ⟨v', ws, rfl, r5, r6⟩ := ra.cons_inv
        obtain ⟨w', ws', rfl, r7, r8⟩ := r6.cons_inv
        exfalso
        have l1 := evs_len g1
        have l2 := chks_len hc
        have l3 := fzs_len g2
        simp at l2 l3
        omega
    · obtain ⟨y, z, rfl⟩ := len_two h3
      have hy : notStar y = true ∧ notStar z = true := by simpa using h2
      refine PI.imp (pi_range2 (gloB_ok rfl h1) hr pa (by rw [star_cons hy.1, star_cons hy.2]; rfl) (star_cons hy.2)) fun σ H R q => ?_
      obtain ⟨B, s0, rs, s', ds, xs, g1, g2, g3, F, en, kk⟩ := q
      refine ⟨B, s0, rs, s', g1, F, en, fun vs H1 F1 q1 e1 rv => ?_⟩
      obtain ⟨_, ra⟩ := fzs_ok rv g2
      rcases rng_inv g3 with ⟨m, rfl, b1, b2, rfl⟩ | ⟨lo, hi, rfl, b1, b2, b3, b4, b5, rfl⟩
      · exfalso
        have l1 := evs_len g1
        have l2 := chks_len hc
        have l3 := fzs_len g2
        simp at l2 l3
        omega
      · obtain ⟨v', ws, rfl, r5, r6⟩ := ra.cons_inv
        cases r5
        obtain ⟨w', ws', rfl, r7, r8⟩ := r6.cons_inv
        cases r7
        obtain rfl := r8.nil_inv
        exact ⟨lo, hi, rfl, ⟨b1, b2, b4, b5⟩, kk _ H1 F1 q1 e1 (walkD_range (by rw [sizeLine_eq]; omega))⟩
  | enm =>
    unfold itArgs at h
    simp only at h
    split at h
    case h_2 => cases h
    split at h
    case isFalse => cases h
    rename_i elts kk0 tpos f pf y pos hf
    cases h
    obtain ⟨rfl, h1, h2⟩ := hf
    refine PI.imp (pi_enumA (gloB_ok rfl h1) (c.blt _ (by decide +kernel)) (PA_sized (hs X _ c hc (by simpa using h2))) (star_cons h2)) fun σ H R q => ?_
    obtain ⟨B, s0, rs, s', ds, xs, g1, g2, g3, F, en, kk⟩ := q
    refine ⟨B, s0, rs, s', g1, F, en, fun vs H1 F1 q1 e1 rv hz => ?_⟩
    obtain ⟨_, ra⟩ := fzs_ok rv g2
    have g3 : enmItems ds = some xs := g3
    unfold enmItems at g3
    split at g3
    case h_2 => cases g3
    rename_i d
    obtain ⟨v', ws, rfl, r5, r6⟩ := ra.cons_inv
    obtain rfl := r6.nil_inv
    cases r5 with
    | lst a b =>
      cases g3
      exact ⟨_, _, rfl, .inl ⟨SqL.sub e1.fh (.inl a), kk _ H1 F1 q1 e1 (walkD_enum (.inl a) b (hz _ _ (.inl (SqL.sub e1.fh (.inl a)))))⟩⟩
    | tup a0 b =>
      have a := a0.sqt
      cases g3
      exact ⟨_, _, rfl, .inr ⟨SqT.sub e1.fh a, kk _ H1 F1 q1 e1 (walkD_enumT a b (hz _ _ (.inr (SqT.sub e1.fh a))))⟩⟩
    | _ => cases g3
  | zip =>
    unfold itArgs at h
    simp only at h
    split at h
    case h_2 => cases h
    split at h
    case isFalse => cases h
    rename_i elts kk0 tpos f pf y z pos hf
    cases h
    obtain ⟨rfl, h1, h2, h3⟩ := hf
    refine PI.imp (RZ.pi_zipA (gloB_ok rfl h1) (c.blt _ (by decide +kernel)) (PA_sized (hs X _ c hc (by simp [h2, h3]))) (star_cons h2) (star_plain (by simp [h3]))) fun σ H R q => ?_
    obtain ⟨B, s0, rs, s', ds, xs, g1, g2, g3, F, en, kk⟩ := q
    refine ⟨B, s0, rs, s', g1, F, en, fun vs H1 F1 q1 e1 rv hz => ?_⟩
    obtain ⟨_, ra⟩ := fzs_ok rv g2
    have g3 : zipItems ds = some xs := g3
    unfold zipItems at g3
    split at g3
    · cases g3
      obtain ⟨v', ws, rfl, r5, r6⟩ := ra.cons_inv
      obtain ⟨w', ws', rfl, r7, r8⟩ := r6.cons_inv
      obtain rfl := r8.nil_inv
      cases r5 with
      | lst a b =>
        cases r7 with
        | lst a' b' => exact ⟨_, _, _, _, rfl, .inl ⟨SqL.sub e1.fh (.inl a), SqL.sub e1.fh (.inl a'), kk _ H1 F1 q1 e1 (walkD_zip (.inl a) b (.inl a') b' (hz _ _ (.inl (SqL.sub e1.fh (.inl a)))))⟩⟩
    · cases g3
      obtain ⟨v', ws, rfl, r5, r6⟩ := ra.cons_inv
      obtain ⟨w', ws', rfl, r7, r8⟩ := r6.cons_inv
      obtain rfl := r8.nil_inv
      cases r5 with
      | tup a0 b =>
        have a := a0.sqt
        cases r7 with
        | tup a1 b' => have a' := a1.sqt; exact ⟨_, _, _, _, rfl, .inr ⟨SqT.sub e1.fh a, SqT.sub e1.fh a', kk _ H1 F1 q1 e1 (walkD_zipT a b a' b' (hz _ _ (.inr (SqT.sub e1.fh a))))⟩⟩
    · cases g3
end
end Ev

/-! EvR: t[::-1]. -/
namespace Ev
open PySem PySem.Spec L2 PyProof.Rows
section
variable {prog : Program} {w : World} {A : Around} {E : Value → Shared → Prop} {s : Shared}
theorem rev_places (n : Nat) : Builtin.Slice.slicePlaces ((n : Int) - 1) (-1) (-1) = n := by
  unfold Builtin.Slice.slicePlaces
  rw [if_neg (by decide)]
  by_cases h : (n : Int) - 1 > -1
  · rw [if_pos h, show -(-1 : Int) = 1 from rfl, Int.ediv_one]
    omega
  · rw [if_neg h]
    omega
theorem rev_adjust (n : Nat) : Builtin.Slice.sliceAdjust none none (-1) (n : Int) = ((n : Int) - 1, -1) := rfl
theorem rev_applied {sl : Addr} {vl vu vs : Value} {n : Nat} {Q : Int × Int × Nat → Shared → Prop} (hs : s.heap.IsSliceOf sl vl vu vs) (pl : IsPart vl none) (pu : IsPart vu none) (ps : IsPart vs (some (-1)))
    (h : Q ((n : Int) - 1, -1, n) s) : wpAny (model prog w) A (Builtin.Slice.sliceApplied (.ref sl) (pure (n : Int))) Q E s := by
  obtain ⟨os, hos, hcs, hds⟩ := id hs
  unfold Builtin.Slice.sliceApplied Builtin.Slice.sliceFields
  refine wpAny_bind (wpAny_bind (wpAny_field hos hds (x := vl) rfl (wpAny_bind (wpAny_field hos hds (x := vu) rfl (wpAny_bind (wpAny_field hos hds (x := vs) rfl (wpAny_pure ?_)))))))
  refine wpAny_bind (HT.slicePart_ ps ?_)
  show wpAny _ _ (if ((-1 : Int) == 0) = true then _ else _) _ _ s
  rw [if_neg (by decide)]
  refine wpAny_bind (HT.slicePart_ pl (wpAny_bind (HT.slicePart_ pu (wpAny_bind (wpAny_pure ?_)))))
  show wpAny _ _ (match Builtin.Slice.sliceAdjust none none (-1) (n : Int) with | (lo, hi) => pure (lo, (-1 : Int), Builtin.Slice.slicePlaces lo hi (-1))) _ _ s
  rw [rev_adjust n]
  show wpAny _ _ (pure ((n : Int) - 1, (-1 : Int), Builtin.Slice.slicePlaces ((n : Int) - 1) (-1) (-1))) _ _ s
  rw [rev_places]
  exact wpAny_pure h
theorem fm_congr {α β : Type} {f g : α → Option β} : ∀ {l : List α}, (∀ a ∈ l, f a = g a) → l.filterMap f = l.filterMap g
  | [], _ => rfl
  | a :: l, h => by
    rw [List.filterMap_cons, List.filterMap_cons, h a (by simp), fm_congr fun b hb => h b (by simp [hb])]
theorem rev_pick (xs : Array Value) : ((List.range xs.size).filterMap fun (m : Nat) => xs[(((xs.size : Nat) : Int) - 1 + (m : Int) * -1).toNat]?).toArray = xs.toList.reverse.toArray := by
  have h := HT.pick_gen xs.reverse 0 xs.size
  have e2 : ((xs.reverse.toList.drop 0).take xs.size) = xs.toList.reverse := by
    rw [List.drop_zero, Array.toList_reverse, List.take_of_length_le (by simp)]
  rw [e2] at h
  rw [← h]
  congr 1
  refine fm_congr fun m hm => ?_
  rw [List.mem_range] at hm
  rw [Array.getElem?_reverse (by omega)]
  congr 1
  omega
theorem getItem_tuple_rev {t sl : Addr} {items : Array Value} {vl vu vs : Value} {Q : Value → Shared → Prop} (ht : IsTup s.heap t items) (hs : s.heap.IsSliceOf sl vl vu vs) (pl : IsPart vl none) (pu : IsPart vu none) (ps : IsPart vs (some (-1)))
    (h : Q (.ref s.heap.objs.size) { s with heap := s.heap.push { cls := .type "tuple", data := .seq items.toList.reverse.toArray } })
    (hsz : items.size ≤ sizeLine) : wpAny (model prog w) A (getItem (.ref t) (.ref sl)) Q E s := by
  have htake : sizeOk (.seq items.toList.reverse.toArray) := by
    show items.toList.reverse.toArray.size ≤ sizeLine
    simpa using hsz
  obtain ⟨os, hos, hcs, hds⟩ := id hs
  have hTs : s.TypeIs (.ref sl) "slice" := ⟨os, hos, hcs⟩
  unfold getItem
  try with_reducible refine wpAny_holding ?_
  first | refine wpAny_bind (wpAny_pure ?_) | skip
  refine wpAny_bind (wpAny_sequenceKey ht.typeIs (by decide) ?_)
  refine wpAny_bind (wpAny_callSpecial?_slot (name := Str.ofString "__getitem__") ht.typeIs PyProof.Rows.slot_tuple_getitem
    (wpAny_call_entry PyProof.Rows.slot_tuple_getitem ht.typeIs entry_tuple_getitem ?_ (args_tuple_getitem _ _)))
  show wpAny _ _ (Builtin.Tuple.tupleItemsOf (.ref t) >>= _) _ _ s
  refine wpAny_bind (tupleItemsOf_ ht ?_)
  refine wpAny_bind (wpAny_typeOf hTs ?_)
  rw [if_pos (by decide)]
  refine wpAny_bind (rev_applied hs pl pu ps ?_)
  have hno : ¬ (((((items.size : Nat) : Int) - 1) == 0 && (-1 : Int) == 1 && (items.size == items.size)) = true) := by
    intro q
    rw [Bool.and_eq_true, Bool.and_eq_true] at q
    exact absurd (eq_of_beq q.1.2) (by decide)
  show wpAny _ _ (if ((((items.size : Nat) : Int) - 1) == 0 && (-1 : Int) == 1 && (items.size == items.size)) = true then _ else _) _ _ s
  rw [if_neg hno, rev_pick]
  first
    | exact wpAny_bind (m := Builtin.Tuple.tupleExact _) (wpAny_newObj_type (wpAny_pure ⟨_, rfl, wpAny_pure h⟩) htake)
    | exact wpAny_bind (m := Builtin.Tuple.tupleExact _) (wpAny_newObj_type (wpAny_bind (wpAny_pure (wpAny_pure ⟨_, rfl, wpAny_pure h⟩))) htake)
    | exact wpAny_bind (wpAny_bind (m := Builtin.Tuple.tupleExact _) (wpAny_newObj_type (wpAny_pure (wpAny_pure ⟨_, rfl, wpAny_pure h⟩)) htake))
    | exact wpAny_bind (wpAny_bind (m := Builtin.Tuple.tupleExact _) (wpAny_newObj_type (wpAny_pure ⟨_, rfl, wpAny_pure h⟩) htake))
end
/-- x[::-1]: of a list or of a tuple -/
theorem pe_rev {X : Cx} {e : Expr} {te : TE} {k : Nat} {p1 p2 p3 pos : Pos} (he : PE X e te) : PE X (.Subscript e (.Slice none none (some (.UnaryOp .USub (.Constant (.int 1) k p1) p2)) p3) pos)
    (fun σ H Q => te σ H fun x H1 => ∃ a xs, x = .ref a ∧ ((SqL X.K H1 a xs ∧ ∀ p, H1 p = none → Q (.ref p) (upd H1 p (.lst xs.reverse))) ∨ (SqT X.K H1 a xs ∧ NewT H1 xs.reverse Q))) := by
  refine ⟨fun pins s σ H Q I h => ?_⟩
  refine Subscript_ (thn (he.run pins s σ H _ I h) fun v s1 ⟨x, H1, I1, r1, q1⟩ => ?_)
  obtain ⟨a, xs, ex, q⟩ := q1
  subst ex
  cases r1
  have hst : PO X (some (.UnaryOp .USub (.Constant (.int 1) k p1) p2)) (tPart (tUn (rU fun i => .int (-i)) (tC (.int 1)))) := po_some (pe_un un_neg pe_int)
  refine wpAny_Slice (thn (po_none.run pins s1 σ H1 (fun o H2 => o = none ∧ H2 = H1) I1 ⟨rfl, rfl⟩) fun vl s2 ⟨l, H2, I2, pl, el, e2⟩ => ?_)
  subst el e2
  refine thn (po_none.run pins s2 σ H2 (fun o H3 => o = none ∧ H3 = H2) I2 ⟨rfl, rfl⟩) fun vu s3 ⟨u, H3, I3, pu, eu, e3⟩ => ?_
  subst eu e3
  refine thn (hst.run pins s3 σ H3 (fun o H4 => o = some (-1) ∧ H4 = H3) I3 ⟨1, rfl, -1, rfl, rfl, rfl⟩) fun vs s4 ⟨o, H4, I4, ps, eo, e4⟩ => ?_
  subst eo e4
  have I5 : Inv X pins σ H4 { s4 with heap := s4.heap.push { cls := .type "slice", data := .fields #[vl, vu, vs] } } := I4.kept (t' := s4.toks) fun b ob q => Heap.get?_push_of_some _ q
  show wpAny (model X.prog X.w) X.A (subscriptTail e (.Slice none none (some (.UnaryOp .USub (.Constant (.int 1) k p1) p2)) p3) (.ref a) (.ref s4.heap.objs.size)) (EP X pins σ Q) X.xe { s4 with heap := s4.heap.push { cls := .type "slice", data := .fields #[vl, vu, vs] } }
  rcases q with ⟨hx, q⟩ | ⟨hx, q⟩
  · obtain ⟨its, r, ht, hz⟩ := I5.list hx
    have hlen := r.length
    refine tail_any (ops := [.ref a, .ref s4.heap.objs.size]) ht.isList.typeIs (PySem.slot_list_getitem.lookup) ?_ (by with_unfolding_all rfl)
    refine wpAny_getItem_list_slice ht.isList (Heap.IsSliceOf.new _ vl vu vs) pl pu ps (by decide) ?_ (by rw [List.size_toArray]; omega)
    rw [PySem.W.krv_pick]
    refine ⟨.ref _, _, I5.laid (t' := s4.toks) (o := .lst xs.reverse) (fun b ob q => Heap.get?_push_of_some _ q) (Nat.le_refl _) ?_, rfl, q _ (I5.hok.fresh (Nat.le_refl _))⟩
    exact ⟨by rw [List.length_reverse]; exact hz, _, 0, r.reverse, Heap.get?_push_size _ rfl⟩
  · obtain ⟨its, r, ht, hz⟩ := I5.tuple hx
    have hlen := r.length
    refine tail_any (ops := [.ref a, .ref s4.heap.objs.size]) ht.typeIs (PyProof.Rows.slot_tuple_getitem.lookup) ?_ (by with_unfolding_all rfl)
    refine getItem_tuple_rev ht (Heap.IsSliceOf.new _ vl vu vs) pl pu ps ?_ (by rw [List.size_toArray]; omega)
    exact Inv.newT (t' := s4.toks) I5 (fun b ob q => Heap.get?_push_of_some _ q) (Nat.le_refl _) (Heap.get?_push_size _ rfl) r.reverse (by rw [List.length_reverse]; exact hz) q
end Ev

/-! EvG: where no repr runs around: repr of data, calls of defs that want to know it. -/
namespace Ev
open PySem PySem.Spec L2
section
variable {p : Prg} {n : Nat} {S : Sx} {K : Frag} {γ : Gt} {c : Cf}
mutual
theorem plain_nodict : ∀ d : PV, plain d = true → d.hasDict = false
  | .none, _ => rfl
  | .bool _, _ => rfl
  | .int _, _ => rfl
  | .str _, _ => rfl
  | .list xs, h => by rw [plain] at h; exact plains_nodict xs h
  | .tuple xs, h => by rw [plain] at h; exact plains_nodict xs h
  | .dict _, h => by rw [plain] at h; cases h
theorem plains_nodict : ∀ ds : List PV, plains ds = true → PyData.hasDictAll ds = false
  | [], _ => rfl
  | x :: xs, h => by
    rw [plains, Bool.and_eq_true] at h
    rw [PyData.hasDictAll, plain_nodict x h.1, plains_nodict xs h.2]; rfl
end
theorem repr_rule0 {X : Cx} (hg : X.A.guards = some []) (hu : X.A.units + 70 < cLine) : CallR X (.builtin "repr") fun xs H Q => ∃ u r, reprOp u = some r ∧ ∃ F v, xs = [v] ∧ Sub F H ∧ RpT X.K F H v u ∧ ∀ z, r = .frz (.str z) → Q (.str z) H := by
  intro pins s σ H xs us Q I r h
  obtain ⟨u, r0, hr, F, v, rfl, sub, hx, w⟩ := h
  obtain ⟨u', rfl, ru⟩ := vals1 r
  have fin : ∀ {z : Str} {t : Tok} {hp : Heap} {tk : Nat}, r0 = .frz (.str z) → (∀ b o, s.heap.get? b = some o → hp.get? b = some o) → EP X pins σ Q (.str z t) { s with heap := hp, toks := tk } := fun {z t hp tk} e k => by
    exact ⟨.str z, H, I.kept k, ⟨_, rfl⟩, w z e⟩
  have hd := (hx.rp sub)
  unfold reprOp at hr
  split at hr
  · rename_i i
    split at hr
    · rename_i hz
      cases hr
      have := hx.int
      subst this
      obtain ⟨t, rfl⟩ := ru
      exact PySem.P.repr_of_int hz (fin rfl fun _ _ h => h)
    · cases hr
  · cases hr
    obtain ⟨a, kvs, rfl, ha, hk⟩ := hx.dct fun d e => by cases e
    cases hk
    obtain rfl : u' = Value.ref a := ru
    obtain ⟨_, lo, vs, rel, o, es, ep, h1, h2, h3, _, hp, _⟩ := dk_rd I.hok (.inl ha)
    cases rel
    have e0 : es.toList = [] := List.eq_nil_of_length_eq_zero hp.length
    have rd : Reads s.heap (.ref a) (.dict []) [a] := Reads.dict (as := []) (bs := []) h1 h2.1 h3 (by rw [e0]; exact .nil) (by rw [e0]; exact .nil)
    exact repr_of_reads' rd (by decide +kernel) (fun _ hm => by
      rw [List.mem_singleton] at hm
      rw [← hm] at lo
      simp at lo) hg (by have : (PyData.dict []).depth ≤ 60 := by decide +kernel
                         omega) (fun _ _ h => h) (fun h' t tk k => fin rfl k) (by decide +kernel)
  · rename_i hni hnd
    split at hr
    · rename_i hc
      cases hr
      simp only [Bool.and_eq_true, decide_eq_true_eq] at hc
      obtain ⟨⟨⟨h1, h2⟩, h3⟩, h4⟩ := hc
      obtain ⟨as, ra⟩ := Dp.reads I u v u' (hd.dp h1) ru
      have hz : u.shown.length ≤ sizeLine := by rw [← lim_eq]; exact h3
      have nd : u.hasDict = false := plain_nodict u h1
      cases u with
      | int i => exact (hni i rfl).elim
      | dict kvs => simp [plain] at h1
      | none => cases ra; exact PySem.P.repr_of_none (fin rfl fun _ _ h => h)
      | bool b => cases ra; exact PySem.P.repr_of_bool (fin rfl fun _ _ h => h)
      | str z => cases ra; exact PySem.P.repr_of_str (fin rfl fun _ _ h => h) hz
      | list xs =>
        cases ra with
        | list a b c d => exact repr_of_reads' (.list a b c d) h2 (fun z => by rw [nd] at z; cases z) hg (by omega) (fun _ _ h => h) (fun h' t tk k => fin rfl k) hz
      | tuple xs =>
        cases ra with
        | tuple a b c d => exact repr_of_reads' (.tuple a b c d) h2 (fun z => by rw [nd] at z; cases z) hg (by omega) (fun _ _ h => h) (fun h' t tk k => fin rfl k) hz
    · cases hr
theorem repr_rule {X : Cx} (hg : X.A.guards = some []) (hu : X.A.units + 70 < cLine) : CallR X (.builtin "repr") fun xs H Q => ∃ u r, reprOp u = some r ∧ ∃ F v, xs = [v] ∧ Sub F H ∧ RpT X.K F H v u ∧ Want X.K F H r Q :=
  CallR.imp (repr_rule0 hg hu) fun xs H Q ⟨u, r, h1, F, v, h2, h3, h4, w⟩ => ⟨u, r, h1, F, v, h2, h3, h4, fun z e => by subst e; exact w.frz h3 (.str z)⟩
theorem se_reprD {e : E} (he : SE p γ n S e) : SE p γ n S (.reprD e) := fun X x c h => by
  simp only [chk] at h
  split at h
  case h_2 => cases h
  rename_i y py a pos
  simp only [Bool.and_eq_true, decide_eq_true_eq] at h
  obtain ⟨⟨⟨⟨h1, h2⟩, h3⟩, h4⟩, h5⟩ := h
  subst h1
  have hr : ("repr" : Str) ∈ bltNames := by decide
  have hs : SEs p γ n S [e] := ses_cons he ses_nil
  refine PE.imp (pe_callB (repr_rule (c.grd h2) (by have := c.u; omega)) (gloB_ok rfl h3) (c.blt _ hr) PyProof.Rows.boot_repr (hs X [a] c (by simp [chks, h4]) (by simp [h5])) (by decide) (by decide) (star_cons h5) (star_plain (es := []) rfl)) fun σ H Q q => ?_
  obtain ⟨B, s, r0, s', hv, F, en, k⟩ := q
  obtain ⟨r, s1, g1, w1⟩ := bind_inv hv
  obtain ⟨u, s2, g2, w2⟩ := bind_inv w1
  obtain ⟨w3, e3⟩ := opt_inv w2
  subst e3
  have g0 : evs (p.cf n) [e] s = .ok [r] s1 := by
    show (ev (p.cf n) e s).andThen _ = _
    rw [g1]; rfl
  refine ⟨B, s, [r], s1, g0, F, en, fun vs H1 F1 q1 e1 rv => ?_⟩
  cases rv with
  | cons rv0 rn =>
  cases rn
  obtain ⟨e4, tv⟩ := opd_ok e1 rv0 g2
  subst e4
  exact ⟨u, r0, w3, F1, _, rfl, e1.fh, tv, want_of q1 e1 k⟩
/-! ### reversed; how many are in a set -/
theorem se_rev {e : E} (he : SE p γ n S e) : SE p γ n S (.rev e) := fun X x c h => by
  simp only [chk] at h
  split at h
  case h_2 => cases h
  rename_i o j k1 p1 p2 p3 pos
  rw [Bool.and_eq_true, decide_eq_true_eq] at h
  obtain ⟨rfl, h1⟩ := h
  refine PE.imp (pe_rev (he X _ c h1)) fun σ H Q q => ?_
  obtain ⟨B, s, r0, s', hv, F, en, k⟩ := q
  obtain ⟨r, s1, g1, w1⟩ := bind_inv hv
  obtain ⟨u, s2, g2, w2⟩ := bind_inv w1
  obtain ⟨w3, e3⟩ := opt_inv w2
  subst e3
  have go : tU X.K γ (p.cf n) e σ H fun x H1 => ∃ a xs, x = .ref a ∧ ((SqL X.K H1 a xs ∧ ∀ q, H1 q = none → Q (.ref q) (upd H1 q (.lst xs.reverse))) ∨ (SqT X.K H1 a xs ∧ NewT H1 xs.reverse Q)) := by
    refine tU_good g1 en fun v H1 F1 q1 e1 rv => ?_
    obtain ⟨e4, tv⟩ := opd_ok e1 rv g2
    subst e4
    unfold revOp at w3
    split at w3
    case h_3 => cases w3
    · cases w3
      obtain ⟨a, xs, rfl, ha, ra⟩ := tv.lst
      have w := (want_of q1 e1 k).lst e1.fh ra.reverse
      exact ⟨a, xs, rfl, .inl ⟨.inl ha, w⟩⟩
    · cases w3
      obtain ⟨a, xs, rfl, ha, ra⟩ := tv.tup
      have w := (want_of q1 e1 k).tup e1.fh ra.reverse
      exact ⟨a, xs, rfl, .inr ⟨SqT.sub e1.fh ha, w⟩⟩
  exact go
theorem firsts_snoc (y : Int) : ∀ (xs acc : List Int), firsts acc (xs ++ [y]) = (if ((firsts acc xs).any (· == y)) = true then firsts acc xs else firsts acc xs ++ [y])
  | [], acc => rfl
  | x :: xs, acc => firsts_snoc y xs _
theorem firsts_met (ns : List Int) : ∀ i, i ≤ ns.length → PyProof.Rows.firstMet (fun k => ns.getD k 0) i = firsts [] (ns.take i)
  | 0, _ => by rw [List.take_zero]; rfl
  | i + 1, h => by
    have h1 : i < ns.length := h
    rw [PyProof.Rows.firstMet_succ, firsts_met ns i (Nat.le_of_lt h1), List.take_add_one, List.getElem?_eq_getElem h1]
    have e : ns.getD i 0 = ns[i] := by simp [List.getD_eq_getElem?_getD, h1]
    simp only [Option.toList_some, firsts_snoc, e]
    rfl
theorem ints_are : ∀ {ns : List Int} {us : List Value}, Vals (ns.map V.int) us → PyProof.Rows.IntsAre us ns
  | [], _, .nil => PyProof.Rows.IntsAre.nil
  | n :: ns, _, .cons r t => by obtain ⟨k, e⟩ := r; subst e; exact PyProof.Rows.IntsAre.cons n k (ints_are t)
theorem pe_lens {X : Cx} {a : Expr} {ta : TE} {p1 p2 p3 pos : Pos} (hc : X.calm = true) (g1 : Gl X "len") (m1 : X.mg "len" = none) (g2 : Gl X "set") (m2 : X.mg "set" = none) (ha : PE X a ta) (na : notStar a = true) :
    PE X (.Call (.Name "len" p1) [.Call (.Name "set" p2) [a] [] p3] [] pos) (fun σ H Q => ta σ H fun x H1 => ∃ (l : Addr) (ns : List Int), x = .ref l ∧ SqL X.K H1 l (ns.map V.int) ∧ ns.length ≤ 4000 ∧ Q (.int ((firsts [] ns).length : Nat)) H1) := by
  have st : starEach [a] X.env = (false, eval a X.env) :: starEach [] X.env := star_cons na
  refine ⟨fun pins s σ H Q I h => PyProof.Rows.Call_ (ld_blt I g1 m1 (show bootBuiltins "len" = some (.builtin "len") by decide +kernel) (PyProof.Rows.callWith_builtin1 (PyProof.Rows.args_cons (PyProof.Rows.Call_ (ld_blt I g2 m2 PyProof.Rows.boot_set ?_)) rfl) rfl rfl))⟩
  refine PyProof.Rows.callWith_type1 (PyProof.Rows.args_cons (thn (ha.run pins s σ H _ I h) fun u s1 ⟨x, H1, I1, rx, l, ns, ex, hq, hz, q⟩ => PyProof.Rows.args_nil ?_) st) st rfl
  subst ex
  obtain rfl : u = Value.ref l := rx
  obtain ⟨us, ru, pl, _⟩ := I1.list hq
  have hn : us.toArray.size = ns.length := by rw [List.size_toArray, ← ru.length, List.length_map]
  refine call_set_list (I1.ok.hd hc) pl.isList (by simpa using ints_are ru) (by rw [hn]; unfold scanBound; omega) fun h' tk hS hk => PyProof.Rows.args_nil ?_
  rw [hn, firsts_met ns ns.length (Nat.le_refl _), List.take_length] at hS
  obtain ⟨o, es, ep, t, ho, hex, hd, _, _, _, hf, hsz⟩ := hS
  have I2 : Inv X pins σ H1 { s1 with heap := h', toks := tk } := I1.kept fun b ob e => hk b ob (Heap.lt_size e) e
  have le : ∀ (xs acc : List Int), (firsts acc xs).length ≤ acc.length + xs.length := fun xs => by
    induction xs with
    | nil => intro acc; exact Nat.le_refl _
    | cons y ys ih =>
      intro acc
      have h2 := ih (if (acc.any (· == y)) = true then acc else acc ++ [y])
      have h3 : (if (acc.any (· == y)) = true then acc else acc ++ [y]).length ≤ acc.length + 1 := by split <;> simp
      show (firsts (if (acc.any (· == y)) = true then acc else acc ++ [y]) ys).length ≤ _
      rw [List.length_cons]
      omega
  have hle := le ns []
  rw [List.length_nil] at hle
  exact call_len_set ho hex hd hf (by rw [hsz]; omega) ⟨V.int ((firsts [] ns).length : Nat), H1, I2.tok _, ⟨_, by rw [hsz]⟩, q⟩
theorem se_lens {e : E} (he : SE p γ n S e) : SE p γ n S (.lens e) := fun X x c h => by
  simp only [chk] at h
  split at h
  case h_2 => cases h
  simp only [Bool.and_eq_true, decide_eq_true_eq] at h
  obtain ⟨⟨⟨⟨⟨rfl, rfl⟩, h1⟩, h2⟩, h3⟩, h4⟩ := h
  refine PE.imp (pe_lens c.calm (gloB_ok rfl h1) (c.blt _ (by decide)) (gloB_ok rfl h2) (c.blt _ (by decide)) (he X _ c h3) h4) fun σ H Q q => ?_
  obtain ⟨B, s, r0, s', hv, F, en, k⟩ := q
  obtain ⟨r, s1, g1, w1⟩ := bind_inv hv
  obtain ⟨u, s2, g2, w2⟩ := bind_inv w1
  obtain ⟨w3, e3⟩ := opt_inv w2
  subst e3
  refine tU_good g1 en fun v H1 F1 q1 e1 rv => ?_
  obtain ⟨e4, tv⟩ := opd_ok e1 rv g2
  subst e4
  unfold lensOp at w3
  split at w3
  case h_2 => cases w3
  rename_i xs
  cases q : ints? xs with
  | none => rw [q] at w3; cases w3
  | some ns =>
    rw [q, Option.bind_some] at w3
    split at w3
    case isFalse => cases w3
    rename_i hz
    cases w3
    rw [ints_some q] at tv
    obtain ⟨a, vs, rfl, ha, ra⟩ := tv.lst
    rw [ra.ints] at ha
    exact ⟨a, ns, rfl, .inl ha, hz, (want_of q1 e1 k).frz e1.fh (.int _)⟩
theorem pe_callG {X : Cx} {k : Nat} {f : Addr} {fd : FuncData} {ps : List Str} {sp : Sp} {x : Str} {pp pos : Pos} {e : Expr} {es : List Expr} {t : TA} {Ex : XK} (F : FnG X.prog X.w X.K X.mg X.base (CX X.prog X.w) k f fd ps sp) (gd : X.A.guards = some []) (hr : Room k X.A) (hg : Gl X x) (hm : X.mg x = some (.ref f)) (hk : PySem.W.keepIn X.K (.ref f) = true)
    (hb : Binds X.K fd ps []) (hx : Passes (CX X.prog X.w) X Ex) (ha : PA X (e :: es) t) (hdb : (x == ("__debug__" : Str)) = false) (he : starEach (e :: es) X.env = (false, eval e X.env) :: starEach es X.env) (hpl : (backTo pos (starEach es X.env)).any (·.1) = false) :
    PE X (.Call (.Name x pp) (e :: es) [] pos) (fun σ H Q => t σ H fun vs H1 => sp vs H1 Q Ex) := by
  refine ⟨fun pins s σ H Q I h => wpAny_Call_Name_kw (ld_glob I hg hm ?_ hdb)⟩
  refine PySem.W.callWith_K (h₀ := X.base) I.ok.mod.kin hk (thn (ha.run pos pins s σ H _ I h) fun us s1 ⟨vs, H1, I1, rv, q⟩ => ⟨I1.kIn, ?_⟩) he hpl
  have hl : us.length = ps.length := by rw [← rv.length]; exact F.len _ _ _ _ q
  refine wpAny_call (codeAny_mono (F.run X.A X.stack s1 H1 ⟨us, []⟩ us vs Q Ex gd hr I1.env0 (by have := hb s1 us I1.kIn (by simpa using hl); simpa using this) rv q) fun r s' hq => ?_)
  cases r with
  | error e => exact hx pins σ H1 s1 e s' I1 hq
  | ok fl => cases fl <;> first | exact I1.after hq | exact False.elim hq
theorem se_callG {f : Nat} {es : List E} (hs : SEs p γ n S es) : SE p γ n S (.callG f es) := fun X x c h => by
  simp only [chk] at h
  split at h
  case h_2 => cases h
  rename_i y pp ys pos
  simp only [Bool.and_eq_true, decide_eq_true_eq] at h
  obtain ⟨⟨⟨⟨⟨⟨⟨hf, g1⟩, g2⟩, h1⟩, h2⟩, h3⟩, h4⟩, h5⟩ := h
  obtain ⟨fa, fd, ps, hm, hk, hb, F⟩ := c.fnG f y hf g1
  cases ys with
  | nil => simp at h5
  | cons z zs =>
    have h4' := h4
    rw [List.all_cons, Bool.and_eq_true] at h4'
    refine PE.imp (pe_callG F (c.grd g2) c.room (gloB_ok rfl h1) hm hk hb passN (hs X _ c h3 h4) (plainName_ok h2).1 (star_cons h4'.1) (star_plain h4'.2)) fun σ H Q q => ?_
    obtain ⟨B, s, r0, s', hv, F0, en, k⟩ := q
    obtain ⟨rs, s1, g1, w1⟩ := bind_inv hv
    have w1 : callFn (p.cf n) f rs s1 = .ok r0 s' := w1
    obtain ⟨pq, s2, g2, w2⟩ := bind_inv w1
    refine ⟨B, s, rs, s1, g1, F0, en, fun vs H1 F1 q1 e1 rv => ?_⟩
    obtain ⟨e2, as, ar, lr⟩ := passArgs_ok e1 rv g2
    subst e2
    split at w2
    · rename_i nd
      obtain ⟨ro, s3, g3, w3⟩ := bind_inv w2
      obtain ⟨g3', e3⟩ := opt_inv g3
      subst e3
      obtain ⟨_, s4, g4, w4⟩ := bind_inv w3
      obtain ⟨e5, e6⟩ := pure_inv w4
      subst e5
      subst e6
      refine ⟨F1, pq.1, as, e1.fh, e1.tab, e1.ftb, ar, lr.nodup e1 nd, .inl ⟨ro.1, ro.2, g3', fun v F' H' po => ?_⟩⟩
      obtain ⟨e7, r7⟩ := e1.called lr nd g4 po
      exact k v H' F' (q1.trans po.ff) e7 r7
    · cases w2
end
end Ev

/-! EvL: a call behind a lambda, told by the def that tells what it met. -/
namespace Ev
open PySem PySem.Spec L2
section
variable {p : Prg} {n : Nat} {S : Sx} {K : Frag} {γ : Gt} {c : Cf} {mg : Str → Option Value}
/-- all but tables stands: so does what is known of the names -/
theorem EnvR.ext {B : Bs} {F H H1 : Hp} {σ : L2.St} {s : Ev.Env} (en : EnvR K γ B F H σ s) (x : LamX.ExtN H H1) (t : LamX.Tabs γ.tb H1) : EnvR K γ B F H1 σ s := by
  have own : ∀ {a : Addr} {d : PV}, OwnR K F H a d → OwnR K F H1 a d := fun h => h.stayK (Sub.refl F) fun o ho nt => x _ o ho nt
  refine ⟨fun a o h => x a o (en.fh a o h) fun ps z => en.ftb a ps (by rw [h, z]), en.len, fun i y h => ?_, en.apart, fun q hq => ?_, en.tmpA, en.tmpN, en.lent, fun a o h nl => x a o (en.keep a o h nl) fun ps z => B.nt a ps (by rw [h, z]), en.fnew, en.fold, t, en.ftb⟩
  · have w := en.slot i y h
    cases y with
    | emp => trivial
    | frz d => exact w
    | fn f => exact w
    | own d => obtain ⟨a, w1, w2, w3, w4⟩ := w; exact ⟨a, w1, w2, w3, own w4⟩
    | io d => obtain ⟨a, w1, w2, w3, w4⟩ := w; exact ⟨a, w1, w2, w3, own w4⟩
  · obtain ⟨h1, h2, h3⟩ := en.tmp q hq
    exact ⟨h1, h2, own h3⟩
def HR.isFld : HR → Bool
  | .fld _ => true
  | _ => false
/-! ### what the clauses give -/
def giveH (K : Frag) (γ : Gt) (j : Nat) (r : HR) (cls : Value) (d : Option Addr) (H : Hp) (Q : VK) : Prop := match r with
  | .str z => Q (.str z) H
  | .strs zs => NewT H (zs.map V.str) Q
  | .fld zs => ∃ C x dd y, γ.ex[j]? = some (C, some x) ∧ cls = .ref C ∧ d = some dd ∧ H dd = some (.xd [(x, y)]) ∧ NewT H (zs.map V.str ++ [y]) Q
  | .never _ => False
  | .rep a b => ∃ C x dd y, γ.ex[j]? = some (C, some x) ∧ cls = .ref C ∧ d = some dd ∧ H dd = some (.xd [(x, y)]) ∧ ∃ u z F, Sub F H ∧ Rp K F y u ∧ reprOp u = some (.frz (.str z)) ∧ b.length + z.length ≤ lim ∧ NewT H [V.str a, V.str (b ++ z)] Q
/-- the clauses' wish -/
def wishM (K : Frag) (γ : Gt) (Q : VK) : List (Nat × HR) → XK
  | [] => fun _ _ _ => False
  | (j, r) :: l => fun cls d H => ∃ C fo b, γ.ex[j]? = some (C, fo) ∧ PySem.W.exmOne K cls (.ref C) = some b ∧ (b = false → wishM K γ Q l cls d H) ∧ (b = true → giveH K γ j r cls d H Q)
/-- told, or met -/
def TMet (K : Frag) (γ : Gt) (d : MetD) : (XK → Hp → VK → Prop) → Hp → VK → Prop := fun tl H Q =>
  tl (wishM K γ Q d.hs) H fun v H1 => [V.str d.told, v].length ≤ sizeLine ∧ NewT H1 [V.str d.told, v] Q
theorem pa_strs {X : Cx} : ∀ {zs : List Str} {es : List Expr}, strsB zs es = true → PA X es (fun σ H Q => Q (zs.map V.str) H)
  | [], es, h => by
    cases es with
    | nil => exact pa_nil
    | cons y ys => simp [strsB] at h
  | z :: zs, es, h => by
    cases es with
    | nil => simp [strsB] at h
    | cons y ys =>
      simp only [strsB] at h
      split at h
      · rename_i he
        injection he with h1 h2
        subst h1
        subst h2
        rw [Bool.and_eq_true] at h
        have hz := of_decide_eq_true h.1
        subst hz
        exact PA.imp (pa_cons pe_str (pa_strs h.2)) fun σ H Q q => q
      · cases h
theorem takes_len {X : Cx} {W : WX} (tk : Takes X W) : Takes X (fun cls d σ H => σ.length = X.N.length → W cls d σ H) := fun u s ⟨a, B, t0, pins, σ, H, cls, d, e, I, nb, up, sky, na, os, ag, w⟩ =>
  tk u s ⟨a, B, t0, pins, σ, H, cls, d, e, I, nb, up, sky, na, os, ag, w I.len⟩
/-- what a clause's suite asks -/
def tsH (K : Frag) (γ : Gt) (j : Nat) (r : HR) : Addr → Value → Option Addr → TS := fun a cls d D σ H => match r with
  | .str z => D.rt (.str z) H
  | .strs zs => (zs.map V.str).length ≤ sizeLine ∧ NewT H (zs.map V.str) D.rt
  | .fld zs => σ[1]? = some (some (.ref a)) ∧ ∃ C x dd y, γ.ex[j]? = some (C, some x) ∧ cls = .ref C ∧ d = some dd ∧ H dd = some (.xd [(x, y)]) ∧ (zs.map V.str ++ [y]).length ≤ sizeLine ∧ NewT H (zs.map V.str ++ [y]) D.rt
  | .never _ => False
  | .rep s1 s2 => σ[1]? = some (some (.ref a)) ∧ ∃ C x dd y, γ.ex[j]? = some (C, some x) ∧ cls = .ref C ∧ d = some dd ∧ H dd = some (.xd [(x, y)]) ∧ ∃ u z F, Sub F H ∧ Rp K F y u ∧ reprOp u = some (.frz (.str z)) ∧ s2.length + z.length ≤ sizeLine ∧ NewT H [V.str s1, V.str (s2 ++ z)] D.rt
def slotH : HR → Option Nat
  | .fld _ => some 1
  | .never true => some 1
  | .rep _ _ => some 1
  | _ => none
def clsH (K : Frag) (γ : Gt) (h : Nat × HR) : Clz := (.ref (((γ.ex[h.1]?).map (·.1)).getD 0), slotH h.2, tsH K γ h.1 h.2)
theorem xok_mg {mg : Str → Option Value} {x : Str} {C : Addr} {fo : Option Str} (h : XOk K mg x C fo) : mg x = some (.ref C) := by
  cases h with
  | plain _ _ h _ _ _ => exact h
  | low T => exact T.gC
theorem pa_fld {X : Cx} {e : Expr} {te : TE} (he : PE X e te) (hn : notStar e = true) : ∀ {zs : List Str} {es : List Expr}, strsB zs (es.take zs.length) = true → es.drop zs.length = [e] → PA X es (fun σ H Q => te σ H fun v H1 => Q (zs.map V.str ++ [v]) H1)
  | [], es, _, h => by
    simp only [List.length_nil, List.drop_zero] at h
    subst h
    exact PA.imp (pa_cons he pa_nil (hs := star_cons hn)) fun σ H Q q => q
  | z :: zs, es, h, h2 => by
    cases es with
    | nil => simp at h2
    | cons y ys =>
      simp only [List.length_cons, List.take_succ_cons, strsB] at h
      split at h
      · rename_i he2
        injection he2 with h3 h4
        subst h3
        subst h4
        rw [Bool.and_eq_true] at h
        have hz := of_decide_eq_true h.1
        subst hz
        exact PA.imp (pa_cons pe_str (pa_fld he hn h.2 (by simpa using h2))) fun σ H Q q => q
      · cases h
theorem cls_ok {X : Cx} {N : List Str} {sc : Scope} {xs : List (Str × Option Str)} (hx : ∀ (k : Nat) (y : Str) (fo : Option Str), xs[k]? = some (y, fo) → ∃ C, γ.ex[k]? = some (C, fo) ∧ XOk X.K X.mg y C fo) (hs : X.env.scope = sc) (hN : X.N = N) (hb : X.mg "repr" = none) (hu : X.A.units + 100 < cLine) : ∀ {l : List (Nat × HR)} {hs : List ExceptHandler}, (∀ h ∈ l, h.2.isRep = true → X.A.guards = some []) → metH N sc xs l hs = true → ClsOk X hs (l.map (clsH X.K γ))
  | [], hs, hgd, h => by
    cases hs with
    | nil => exact .nil
    | cons y ys => simp [metH] at h
  | (j, r) :: l, hs', hgd, h => by
    cases hs' with
    | nil => simp [metH] at h
    | cons y ys =>
      simp only [metH] at h
      split at h
      case h_2 => cases h
      rename_i x px nm e pr ph hs2 hh
      injection hh with h1 h2
      subst h1
      subst h2
      simp only [Bool.and_eq_true] at h
      obtain ⟨⟨⟨g1, g2⟩, g3⟩, g4⟩ := h
      have ih := cls_ok hx hs hN hb hu (fun h hh => hgd h (by simp [hh])) g3
      split at g4
      case h_2 => cases g4
      rename_i y fo hy
      rw [Bool.and_eq_true] at g4
      obtain ⟨g5, g6⟩ := g4
      have g5 := of_decide_eq_true g5
      subst g5
      obtain ⟨C, hC, hok⟩ := hx j x fo hy
      have hname : Names X x (.ref C) := ⟨gloB_ok hs g1, (plainName_ok g2).1, .inl (xok_mg hok)⟩
      have hc : clsH X.K γ (j, r) = (.ref C, slotH r, tsH X.K γ j r) := by
        unfold clsH
        rw [hC]
        rfl
      rw [List.map_cons, hc]
      have loc : ∀ {y : Str}, sc.names.lookup y = some .local → X.env.kindOf y = some .local := fun {y} h => by
        unfold PySem.Env.kindOf
        rw [hs, h]
      cases r with
      | never b =>
        cases nm with
        | none =>
          have hb : b = false := by simpa using g6
          subst hb
          exact .bare hname (fun a ob cls d pl _ _ => ⟨fun _ _ _ _ _ _ q => q.elim⟩) ih
        | some y =>
          simp only [Bool.and_eq_true, decide_eq_true_eq] at g6
          obtain ⟨⟨hb, k1⟩, k2⟩ := g6
          subst hb
          exact .named hname (by rw [hN]; exact k1) (loc k2) (fun a ob cls d pl _ _ => ⟨fun _ _ _ _ _ _ q => q.elim⟩) ih
      | str z =>
        simp only [Bool.and_eq_true, decide_eq_true_eq] at g6
        obtain ⟨k1, k2⟩ := g6
        subst k1
        split at k2
        · have k2 := of_decide_eq_true k2
          subst k2
          exact .bare hname (fun a ob cls d pl _ _ => PSs.imp (pss_one (ps_ret pe_str)) fun D σ H q => q) ih
        · cases k2
      | «strs» zs =>
        simp only [Bool.and_eq_true, decide_eq_true_eq] at g6
        obtain ⟨⟨k1, k3⟩, k2⟩ := g6
        subst k1
        split at k2
        · rw [Bool.and_eq_true] at k2
          exact .bare hname (fun a ob cls d pl _ _ => PSs.imp (pss_one (ps_ret (pe_tupN (pa_strs k2.1)))) fun D σ H q => q) ih
        · cases k2
      | rep s1 s2 =>
        cases nm with
        | none => cases g6
        | some y =>
          simp only [Bool.and_eq_true, decide_eq_true_eq] at g6
          obtain ⟨⟨⟨k4, k5⟩, k6⟩, k7⟩ := g6
          split at k7
          case h_2 => cases k7
          rename_i a' ja pa b' jb pb r' pr2 y' py f pat pc pbin jt pt
          simp only [Bool.and_eq_true, decide_eq_true_eq] at k7
          obtain ⟨⟨⟨⟨⟨q1, q2⟩, q3⟩, q4⟩, q5⟩, q6⟩ := k7
          subst q1
          subst q2
          subst q3
          subst q5
          subst q6
          have hgd' := hgd (j, .rep a' b') (by simp) rfl
          cases hok with
          | low T =>
          refine .named hname (by rw [hN]; exact k4) (loc k5) (fun a ob cls d pl hz hf => ?_) ih
          have hv : Vis (X.suite a ((a, ob) :: pl)).env.scope y' := by
            show Vis X.env.scope y'
            rw [hs]
            exact .inl k5
          have he := pe_xf (X := X) (a := a) (cls := cls) (d := d) (pn := pl) (pos := pat) ⟨T.ga, T.gg, T.exC, T.hdC⟩ T.noN hz hf (pe_var (X := X.suite a ((a, ob) :: pl)) (i := 1) (pos := py) (by show X.N[1]? = _; rw [hN]; exact k4) hv (plainName_ok k6).1 (plainName_ok k6).2)
          have hr := pe_callB (X := X.suite a ((a, ob) :: pl)) (p := pr2) (pos := pc) (repr_rule0 (X := X.suite a ((a, ob) :: pl)) hgd' (by show X.A.units + 70 < cLine; omega)) (gloB_ok (X := X.suite a ((a, ob) :: pl)) hs q4) hb PyProof.Rows.boot_repr (pa_cons he pa_nil) (by decide) (by decide)
          refine PSs.imp (pss_one (ps_ret (pe_tupN (pa_cons pe_str (pa_cons (pe_op op_add_str pe_str hr) pa_nil))))) fun D σ H q => ?_
          obtain ⟨q1, C', x', dd, v, q2, q3, q4, q5, u, z, F, q6, q7, q8, q9, q10⟩ := q
          rw [hC] at q2
          cases q2
          refine ⟨.ref a, q1, rfl, q3, dd, _, v, q4, q5, by simp [List.lookup], u, _, q8, F, v, rfl, q6, Rp.top q6 q7, fun w hw => ?_⟩
          cases hw
          exact ⟨b', z, rfl, rfl, q9, by rw [sizeLine_eq]; show 2 ≤ _; omega, q10⟩
      | fld zs =>
        rw [Bool.and_eq_true] at g6
        obtain ⟨k3, k2⟩ := g6
        cases nm with
        | none => cases k2
        | some y =>
          simp only [Bool.and_eq_true, decide_eq_true_eq] at k2
          obtain ⟨⟨⟨k4, k5⟩, k6⟩, k7⟩ := k2
          split at k7
          case h_2 => cases k7
          rename_i ys jj pp
          simp only [Bool.and_eq_true] at k7
          obtain ⟨⟨k8, k9⟩, k10⟩ := k7
          split at k10
          case h_2 => cases k10
          rename_i y' py f pa hd
          simp only [Bool.and_eq_true, decide_eq_true_eq] at k10
          obtain ⟨e1, e2⟩ := k10
          subst e1
          subst e2
          cases hok with
          | low T =>
          refine .named hname (by rw [hN]; exact k4) (loc k5) (fun a ob cls d pl hz hf => ?_) ih
          have hv : Vis (X.suite a ((a, ob) :: pl)).env.scope y' := by
            show Vis X.env.scope y'
            rw [hs]
            exact .inl k5
          have he := pe_xf (X := X) (a := a) (cls := cls) (d := d) (pn := pl) (pos := pa) ⟨T.ga, T.gg, T.exC, T.hdC⟩ T.noN hz hf (pe_var (X := X.suite a ((a, ob) :: pl)) (i := 1) (pos := py) (by show X.N[1]? = _; rw [hN]; exact k4) hv (plainName_ok k6).1 (plainName_ok k6).2)
          refine PSs.imp (pss_one (ps_ret (pe_tupN (pa_fld he rfl k8 hd)))) fun D σ H q => ?_
          obtain ⟨q1, C', x', dd, v, q2, q3, q4, q5, q6, q7⟩ := q
          rw [hC] at q2
          cases q2
          exact ⟨.ref a, q1, rfl, q3, dd, _, v, q4, q5, by simp [List.lookup], q6, q7⟩
/-- the clauses' wish, clause by clause -/
theorem wish_cls {D : Ends} {Q : VK} {cls : Value} {d : Option Addr} {H : Hp} {σ : L2.St} (hQ : D.rt = Q) {N : List Str} {sc : Scope} {xs : List (Str × Option Str)} (hx : ∀ (k : Nat) (y : Str) (fo : Option Str), xs[k]? = some (y, fo) → ∃ C, γ.ex[k]? = some (C, fo) ∧ XOk K mg y C fo) (hσ : σ.length = N.length) :
    ∀ {l : List (Nat × HR)} {hs : List ExceptHandler}, metH N sc xs l hs = true → wishM K γ Q l cls d H → wCls K D (l.map (clsH K γ)) cls d σ H
  | [], _, _, h => h.elim
  | (j, r) :: l, hs', hm, h => by
    cases hs' with
    | nil => simp [metH] at hm
    | cons y ys =>
      simp only [metH] at hm
      split at hm
      case h_2 => cases hm
      rename_i x px nm e pr ph hs2 hh
      injection hh with h1 h2
      subst h1
      subst h2
      simp only [Bool.and_eq_true] at hm
      obtain ⟨⟨⟨g1, g2⟩, g3⟩, g4⟩ := hm
      obtain ⟨C, fo, b, hC, he, hno, hyes⟩ := h
      have hc : clsH K γ (j, r) = (.ref C, slotH r, tsH K γ j r) := by
        unfold clsH
        rw [hC]
        rfl
      rw [List.map_cons, hc]
      refine ⟨b, he, fun hb => wish_cls hQ hx hσ g3 (hno hb), fun hb a ha => ?_⟩
      have give := hyes hb
      have small : ∀ zs : List Str, zs.length ≤ 9 → zs.length ≤ sizeLine := fun zs hz => by rw [sizeLine_eq]; omega
      split at g4
      case h_2 => cases g4
      rename_i y' fo' hy
      rw [Bool.and_eq_true] at g4
      obtain ⟨_, g6⟩ := g4
      cases r with
      | never b => exact give.elim
      | str z =>
        show D.rt _ _
        rw [hQ]
        exact give
      | «strs» zs =>
        simp only [Bool.and_eq_true, decide_eq_true_eq] at g6
        refine ⟨by rw [List.length_map]; exact small zs g6.1.2, fun q o hq hd => ?_⟩
        rw [hQ]
        exact give q o hq hd
      | rep s1 s2 =>
        cases nm with
        | none => cases g6
        | some y =>
          simp only [Bool.and_eq_true, decide_eq_true_eq] at g6
          obtain ⟨⟨⟨k4, _⟩, _⟩, _⟩ := g6
          have hl : 1 < σ.length := by rw [hσ]; exact (List.getElem?_eq_some_iff.mp k4).1
          obtain ⟨C', x', dd, v, q2, q3, q4, q5, u, z, F, q6, q7, q8, q9, q10⟩ := give
          rw [hC] at q2
          cases q2
          refine ⟨List.getElem?_set_self hl, C, x', dd, v, hC, q3, q4, q5, u, z, F, q6, q7, q8, by rw [← lim_eq]; exact q9, fun q o hq hd => ?_⟩
          show D.rt _ _
          rw [hQ]
          exact q10 q o hq hd
      | fld zs =>
        rw [Bool.and_eq_true] at g6
        obtain ⟨k3, k2⟩ := g6
        cases nm with
        | none => cases k2
        | some y =>
          simp only [Bool.and_eq_true, decide_eq_true_eq] at k2
          obtain ⟨⟨⟨k4, _⟩, _⟩, _⟩ := k2
          have hl : 1 < σ.length := by rw [hσ]; exact (List.getElem?_eq_some_iff.mp k4).1
          obtain ⟨C', x', dd, v, q2, q3, q4, q5, q6⟩ := give
          have k3 := of_decide_eq_true k3
          obtain ⟨C2, hC2, hok⟩ := hx j y' fo' hy
          rw [hC] at q2
          cases q2
          refine ⟨List.getElem?_set_self hl, C, x', dd, v, hC, q3, q4, q5, by rw [List.length_append, List.length_map, List.length_singleton, sizeLine_eq]; omega, fun q o hq hd => ?_⟩
          show D.rt _ _
          rw [hQ]
          exact q6 q o hq hd
/-- the def that tells what a call met, given a lambda -/
theorem met_gives {X : Cx} {xs : List (Str × Option Str)} (hx : ∀ (k : Nat) (y : Str) (fo : Option Str), xs[k]? = some (y, fo) → ∃ C, γ.ex[k]? = some (C, fo) ∧ XOk X.K X.mg y C fo) {d : MetD} (hrp : X.mg "repr" = none) (hun : X.A.units + 200 < cLine) (hgd : d.hasRep = true → X.A.guards = some []) {Ng : List Str} {x a q : Str} {sg : Scope} {g : Addr} {cdg : Value} {bg : List Stmt} (hb : metB Ng sg xs d bg = true) (ha : Ng[0]? = some a) (nd : Ng.Nodup)
    (h0 : ∀ f : Addr, (L2.start Ng [V.ref f])[0]? = some (some (V.ref f))) : LamX.GivesTo X Ng x sg g cdg bg a q (TMet X.K γ d) := by
  intro f c' s H Q tl act hc h
  unfold metB at hb
  split at hb
  case h_2 => cases hb
  rename_i t j1 p1 a' p2 p3 j2 p4 p5 hd hs p6
  simp only [Bool.and_eq_true, decide_eq_true_eq] at hb
  obtain ⟨⟨⟨⟨b1, b2⟩, b3⟩, b4⟩, b5⟩ := hb
  rw [ha] at b2
  cases b2
  subst b1
  let XX := (cxOf C8.CX0 X.prog X.w X.K X.mg X.base Ng x sg g cdg X.A X.stack s H C8.E0).nox
  have cl : ClsOk XX (hd :: hs) (d.hs.map (clsH X.K γ)) := cls_ok (X := XX) hx rfl rfl hrp (by show X.A.units + 3 + 100 < cLine; omega) (fun h hh hr => hgd (by unfold MetD.hasRep; rw [List.any_eq_true]; exact ⟨h, hh, hr⟩)) b5
  refine ⟨_, pss_one (ps_try_cls (X := XX) (tb := fun W D σ H => σ.length = Ng.length ∧ (∀ cls dd σ' H', wishM X.K γ D.rt d.hs cls dd H' → σ'.length = Ng.length → W cls dd σ' H') ∧ σ[0]? = some (some (.ref f)) ∧ H c' = some (LamX.CodeO c' q) ∧ TMet X.K γ d tl H D.rt) rfl rfl nd (fun W pn xe tk _ => ?_) cl), ?_⟩
  · refine ⟨fun pins s' σ H D I h' => ?_⟩
    obtain ⟨_, hW, h1, h2, h3⟩ := h'
    have hp := act (fun cls d σ H => σ.length = Ng.length → W cls d σ H) pn xe (wishM X.K γ D.rt d.hs) p2 p3 (takes_len (X := XX.tr pn xe) tk) hW
    have hq := pss_one (ps_ret (pos := p5) (pe_tupN (pos := p4) (x1 := j2) (pa_cons (pe_str (x := d.told) (pos := p1) (j := j1)) (pa_cons hp pa_nil))))
    exact hq.run pins s' σ H D I ⟨h1, h2, h3⟩
  · exact ⟨by have := (List.getElem?_eq_some_iff.mp ha).1; simp [L2.start]; omega, fun cls dd σ' H' w hl => wish_cls (D := { nx := fun _ H' => Q .non H', rt := Q }) rfl hx hl b5 w, h0 f, hc, h⟩
/-! ### the lambda's body -/
theorem lam_bind {q : Str} {ps : Arguments} {body : Expr} {scope : Scope} {cl : List (Str × Addr)} {pm cv ctv : Value} (h : lamPs ps = true) : bindArgs (PySem.W.kla_fn "<lambda>" q ps body scope cl pm cv ctv) ⟨[], []⟩ = pure [] := by
  unfold lamPs at h
  simp only [Bool.and_eq_true, List.isEmpty_iff, Option.isNone_iff_eq_none] at h
  obtain ⟨⟨⟨⟨⟨⟨h1, h2⟩, h3⟩, h4⟩, h5⟩, h6⟩, h7⟩ := h
  obtain ⟨p1, p2, p3, p4, p5, p6, p7⟩ := ps
  subst h1 h2 h3 h4 h5 h6 h7
  rfl
theorem lam_dflt {ps : Arguments} {env : PySem.Env} (h : lamPs ps = true) : defaultsOf ps env = ([], []) := by
  unfold lamPs at h
  simp only [Bool.and_eq_true, List.isEmpty_iff, Option.isNone_iff_eq_none] at h
  obtain ⟨⟨⟨⟨⟨⟨h1, h2⟩, h3⟩, h4⟩, h5⟩, h6⟩, h7⟩ := h
  obtain ⟨p1, p2, p3, p4, p5, p6, p7⟩ := ps
  subst h1 h2 h3 h4 h5 h6 h7
  rfl
theorem XC.lamc {X : Cx} (c : XC p γ n S X) {A : Around} {outer : List PySem.Env} {s : Shared} {H : Hp} {E : XK} {scope : Scope} {f c' : Addr} (hr : Room (5 * n) (A.deeper (LamX.lamEnv X scope s.heap.objs.size f c'))) : XC p γ n { S with lam := false, gd := false } (LamX.lamCx X A outer s H E scope f c') :=
  ⟨rfl, c.nd, c.hN, hr, c.blt, c.gs, c.fn, c.fs, c.fnG, fun h => (by cases h), c.xs, fun h => (by cases h), c.met, c.exm, c.fsN⟩
theorem lam_takes {X : Cx} {A : Around} {outer : List PySem.Env} {s : Shared} {H : Hp} {E : XK} {scope : Scope} {f c' : Addr} : Takes (LamX.lamCx X A outer s H E scope f c') (fun cls d _ H => E cls d H) := takes_of rfl rfl rfl rfl
/-- a call with its arguments, by whatever finds the def: the reading -/
def tCB (K : Frag) (γ : Gt) (c : Cf) (f : Nat) (B : Bs) (s : Ev.Env) (es : List E) (E : XK) : L2.St → Hp → VK → Prop := fun σ H Q => ∃ F rs s1 ds, EnvR K γ B F H σ s ∧ evs c es s = .ok rs s1 ∧ fzs rs s1 = .ok ds s1 ∧ c.lent f = [] ∧
  ((∃ r, c.Φ f ds = some (r, []) ∧ ∀ v H' F', Sub F F' → EnvR K γ B F' H' σ s1 → RvR K B F' H' σ s1 v r → Q v H') ∨ ∃ j v, c.Ξ f ds = some (j, v) ∧ ∀ H' F' cls d, Sub F F' → EnvR K γ B F' H' σ s1 → XR K γ F' H' cls d j v → E cls d H')
theorem post_envX {B : Bs} {F H F' H' : Hp} {σ : L2.St} {s : Ev.Env} {j : Nat} {d : PV} {cls : Value} {dd : Option Addr} (en : EnvR K γ B F H σ s) (po : PostX K γ F H j d cls dd F' H') : EnvR K γ B F' H' σ s := by
  have po2 : Post K γ F H [] [] (.frz .none) .non F' H' := ⟨po.ff, po.fh, fun a o h n _ => po.keep a o h n, po.new, .nil, .non, po.tab, po.ftb⟩
  exact (post_env en po2).1
/-- what a call's arguments and its def's promise give -/
theorem tCB_of {f : Nat} {B : Bs} {s : Ev.Env} {es : List E} {E : XK} {σ : L2.St} {H : Hp} {Q : VK} (h : tCB K γ (p.cf n) f B s es E σ H Q) : tUs K γ (p.cf n) es σ H fun us H1 => spF K γ p n f us H1 Q E := by
  obtain ⟨F, rs, s1, ds, en, g1, g2, hl, q⟩ := h
  refine ⟨B, s, rs, s1, g1, F, en, fun us H1 F1 q1 e1 rv => ?_⟩
  obtain ⟨_, ra⟩ := fzs_ok rv g2
  rw [cf_lent] at hl
  refine ⟨F1, ds, [], e1.fh, e1.tab, e1.ftb, by rw [hl]; exact argsR_all 0 ra, List.nodup_nil, ?_⟩
  rcases q with ⟨r, hr, k⟩ | ⟨j, v, hj, k⟩
  · refine .inl ⟨r, [], hr, fun v F' H' po => ?_⟩
    obtain ⟨e7, r7⟩ := post_env e1 po
    exact k v H' F' (q1.trans po.ff) e7 r7
  · exact .inr ⟨rfl, j, v, hj, fun cls d F' H' po => k H' F' cls d (q1.trans po.ff) (post_envX e1 po) po.exc⟩
theorem pe_callLam {X : Cx} {Ex : XK} (c : XC p γ n S X) (tk : Takes X (fun cls d _ H => Ex cls d H)) {f : Nat} {es : List E} {z : Str} {pz pos : Pos} {ys : List Expr} (hs : SEs p γ n S es) (hf : S.fns[f]? = some z) (hgd : S.gds.contains f = false) (h1 : gloB X.env.scope z = true) (h2 : plainName z = true) (h3 : chks S X.env.scope es ys = true) (h4 : ys.all notStar = true) (h5 : (!ys.isEmpty) = true) :
    PE X (.Call (.Name z pz) ys [] pos) (fun σ H Q => ∃ B s, tCB X.K γ (p.cf n) f B s es Ex σ H Q) := by
  obtain ⟨fa, fd, ps, hm, hk, hb, F⟩ := c.fn f z hf hgd
  cases ys with
  | nil => simp at h5
  | cons w ws =>
    have h4' := h4
    rw [List.all_cons, Bool.and_eq_true] at h4'
    refine PE.imp (pe_call F c.room (gloB_ok rfl h1) hm hk hb .nil (passes_call tk fun _ _ _ _ h => h) (hs X _ c h3 h4) (plainName_ok h2).1 (star_cons h4'.1) (star_plain h4'.2)) fun σ H Q q => ?_
    obtain ⟨B, s, q⟩ := q
    obtain ⟨B, s, rs, s1, g1, F, en, k⟩ := tCB_of q
    exact ⟨B, s, rs, s1, g1, F, en, fun us H1 F1 q1 e1 rv => by
      show spF X.K γ p n f (us ++ []) H1 Q Ex
      rw [List.append_nil]; exact k us H1 F1 q1 e1 rv⟩
theorem pe_callVLam {X : Cx} {Ex : XK} (c : XC p γ n S X) (tk : Takes X (fun cls d _ H => Ex cls d H)) {i : Nat} {es : List E} {z : Str} {pz pos : Pos} {ys : List Expr} (hs : SEs p γ n S es) (hn : nameB S X.env.scope i z = true) (h3 : chks S X.env.scope es ys = true) (h4 : ys.all notStar = true) (h5 : (!ys.isEmpty) = true) :
    PE X (.Call (.Name z pz) ys [] pos) (fun σ H Q => ∃ B s f fa, σ[i]? = some (some (.ref fa)) ∧ γ.fs f = some fa ∧ tCB X.K γ (p.cf n) f B s es Ex σ H Q) := by
  unfold nameB at hn
  simp only [Bool.and_eq_true, decide_eq_true_eq] at hn
  obtain ⟨⟨hN, hv⟩, hpn⟩ := hn
  cases ys with
  | nil => simp at h5
  | cons w ws =>
    have h4' := h4
    rw [List.all_cons, Bool.and_eq_true] at h4'
    refine PE.imp (pe_callV c (by rw [c.hN]; exact hN) (visB_ok hv) (passes_call tk fun _ _ _ _ h => h) (hs X _ c h3 h4) (plainName_ok hpn).1 (plainName_ok hpn).2 (star_cons h4'.1) (star_plain h4'.2)) fun σ H Q q => ?_
    obtain ⟨B, s, f, fa, a1, a2, q⟩ := q
    exact ⟨f, fa, a1, a2, tCB_of q⟩
/-- what the clauses give of an exception of ours -/
theorem wish_of {X : Cx} (c : XC p γ n S X) {Q : VK} {H : Hp} {F : Hp} {cls : Value} {d : Option Addr} {k : Nat} {v w : PV} (xr : XR X.K γ F H cls d k v) (hq : ∀ z H' F', Grow F H F' H' → Rp X.K F' z w → Q z H') (sub : Sub F H) : ∀ {l : List (Nat × HR)}, (∀ h ∈ l, ∃ C fo, γ.ex[h.1]? = some (C, fo) ∧ ∀ r, h.2 = r → (r.isFld = true ∨ r.isRep = true) → fo ≠ none) → (((l.find? fun h => h.1 == k).map (·.2)).bind fun h => h.res v) = some w → wishM X.K γ Q l cls d H
  | [], _, h => by cases h
  | (j, r) :: l, hl, h => by
    obtain ⟨C, fo, hC, hfld⟩ := hl (j, r) (by simp)
    obtain ⟨C2, fo2, hC2, rfl, hx⟩ := xr
    refine ⟨C, fo, _, hC, c.exm k j C2 C fo2 fo hC2 hC, fun hb => ?_, fun hb => ?_⟩
    · have hne : ¬ k = j := by simpa using hb
      have hf : ((j, r) :: l).find? (fun h => h.1 == k) = l.find? fun h => h.1 == k := by
        rw [List.find?_cons_of_neg]
        simpa using fun z : j = k => hne z.symm
      rw [hf] at h
      exact wish_of c ⟨C2, fo2, hC2, rfl, hx⟩ hq sub (fun h hh => hl h (by simp [hh])) h
    · have he : k = j := by simpa using hb
      subst he
      rw [hC2] at hC
      cases hC
      have hf : ((k, r) :: l).find? (fun h => h.1 == k) = some (k, r) := by
        rw [List.find?_cons_of_pos]; simp
      rw [hf] at h
      have h : r.res v = some w := h
      have stq : ∀ zs : List Str, RpAll X.K F (zs.map V.str) (zs.map PyData.str) := fun zs => by
        induction zs with
        | nil => exact .nil
        | cons a l ih => exact .cons (.str a) ih
      cases r with
      | never b => cases h
      | str z => cases h; exact hq _ _ _ (Grow.refl sub) (.str z)
      | rep s1 s2 =>
        have h : (match reprOp v with | some (.frz (.str z)) => if s2.length + z.length ≤ lim then some (PyData.tuple [.str s1, .str (s2 ++ z)]) else none | _ => none) = some w := h
        split at h
        · rename_i z hz
          split at h
          · rename_i hlz
            cases h
            cases fo with
            | none => exact (hfld (HR.rep s1 s2) rfl (.inr rfl) rfl).elim
            | some x =>
            obtain ⟨dd, y, h1, h2, h3⟩ := hx
            refine ⟨C, x, dd, y, hC2, rfl, h1, h2, v, z, F, sub, h3, hz, hlz, fun q o hn hd => ?_⟩
            exact hq _ _ _ (Grow.frz sub hn) (.tup (.inl ⟨o, upd_same, hd⟩) (.cons (.str _) (.cons (.str _) .nil)))
          · cases h
        · cases h
      | «strs» zs =>
        cases h
        intro q o hn hd
        exact hq _ _ _ (Grow.frz sub hn) (.tup (.inl ⟨o, upd_same, hd⟩) (RpAll.sub (Sub.upd (sub.none hn)) (stq zs)))
      | fld zs =>
        cases h
        cases fo with
        | none => exact (hfld _ rfl (.inl rfl) rfl).elim
        | some x =>
        obtain ⟨dd, y, h1, h2, h3⟩ := hx
        refine ⟨C, x, dd, y, hC2, rfl, h1, h2, fun q o hn hd => ?_⟩
        exact hq _ _ _ (Grow.frz sub hn) (.tup (.inl ⟨o, upd_same, hd⟩) (RpAll.sub (Sub.upd (sub.none hn)) ((stq zs).append (.cons h3 .nil))))
theorem metH_ex {X : Cx} (c : XC p γ n S X) {N : List Str} {sc : Scope} : ∀ {l : List (Nat × HR)} {hs : List ExceptHandler}, metH N sc S.xs l hs = true → ∀ h ∈ l, ∃ C fo, γ.ex[h.1]? = some (C, fo) ∧ ∀ r, h.2 = r → (r.isFld = true ∨ r.isRep = true) → fo ≠ none
  | [], _, _, h, hh => by simp at hh
  | (j, r) :: l, hs', hm, h, hh => by
    cases hs' with
    | nil => simp [metH] at hm
    | cons y ys =>
      simp only [metH] at hm
      split at hm
      case h_2 => cases hm
      simp only [Bool.and_eq_true] at hm
      obtain ⟨⟨⟨g1, g2⟩, g3⟩, g4⟩ := hm
      rcases List.mem_cons.mp hh with rfl | hh
      · split at g4
        case h_2 => cases g4
        rename_i y' fo' hy
        obtain ⟨C2, hC2, hok⟩ := c.xs j y' fo' hy
        refine ⟨C2, fo', hC2, fun r' hr' hk => ?_⟩
        subst hr'
        simp only [Bool.and_eq_true] at g4
        obtain ⟨_, g6⟩ := g4
        cases r with
        | fld zs =>
          dsimp only at g6
          rw [Bool.and_eq_true] at g6
          obtain ⟨_, g6⟩ := g6
          split at g6
          case h_2 => cases g6
          simp only [Bool.and_eq_true] at g6
          obtain ⟨_, g7⟩ := g6
          split at g7
          case h_2 => cases g7
          simp only [Bool.and_eq_true] at g7
          obtain ⟨_, g8⟩ := g7
          split at g8
          case h_2 => cases g8
          simp only [Bool.and_eq_true, decide_eq_true_eq] at g8
          rw [g8.2]
          simp
        | rep s1 s2 =>
          dsimp only at g6
          split at g6
          case h_2 => cases g6
          simp only [Bool.and_eq_true] at g6
          obtain ⟨_, g7⟩ := g6
          split at g7
          case h_2 => cases g7
          simp only [Bool.and_eq_true, decide_eq_true_eq] at g7
          rw [g7.2]
          simp
        | str z => rcases hk with hk | hk <;> cases hk
        | «strs» z => rcases hk with hk | hk <;> cases hk
        | never b => rcases hk with hk | hk <;> cases hk
      · exact metH_ex c g3 h hh
/-- what metM gives, as a wish -/
theorem met_wish {X : Cx} (c : XC p γ n S X) {N : List Str} {sc : Scope} {hs : List ExceptHandler} {B : Bs} {d : MetD} {f : Nat} {es : List E} {s s1 s' : Ev.Env} {rs : List Rv} {ds : List PV} {r : Rv} {F H : Hp} {σ : L2.St} {Q : VK} (hm : metH N sc S.xs d.hs hs = true)
    (g1 : evs (p.cf n) es s = .ok rs s1) (g2 : fzs rs s1 = .ok ds s1) (g3 : metM d (callX (p.cf n) f ds) s1 = .ok r s') (en : EnvR X.K γ B F H σ s) (k : ∀ v H' F', Sub F F' → EnvR X.K γ B F' H' σ s' → RvR X.K B F' H' σ s' v r → Q v H') :
    TMet X.K γ d (fun Ex H' Q' => ∃ B s, tCB X.K γ (p.cf n) f B s es Ex σ H' Q') H Q := by
  unfold metM at g3
  have two : ∀ v : V, [V.str d.told, v].length ≤ sizeLine := fun v => by rw [sizeLine_eq]; show 2 ≤ _; omega
  have big : (p.cf n).lent f = [] := by
    unfold callX at g3
    by_cases hl : (p.cf n).lent f = []
    · exact hl
    · rw [if_neg hl] at g3; cases g3
  refine ⟨B, s, F, rs, s1, ds, en, g1, g2, big, ?_⟩
  unfold callX at g3
  rw [if_pos big] at g3
  cases hΦ : (p.cf n).Φ f ds with
  | some ro =>
    obtain ⟨r0, os⟩ := ro
    rw [hΦ] at g3
    cases os with
    | cons o os => cases g3
    | nil =>
      left
      refine ⟨r0, rfl, fun v H' F' q1 e1 rv => ⟨two v, fun q o hq hd => ?_⟩⟩
      have fin : ∀ {F2 : Hp} {w : PV}, Sub F' F2 → EnvR X.K γ B F2 H' σ s1 → Rp X.K F2 v w → r = .frz (.tuple [.str d.told, w]) → s' = s1 → Q (.ref q) (upd H' q (.frz o (.tup [V.str d.told, v]))) := fun {F2 w} q2 e2 rw_ e3 e4 => by
        subst e3
        subst e4
        have gr : Grow F2 H' (upd F2 q (.frz o (.tup [V.str d.told, v]))) (upd H' q (.frz o (.tup [V.str d.told, v]))) := Grow.frz e2.fh hq
        exact k _ _ _ (q1.trans (q2.trans gr.ff)) (e2.grow gr) (.tup (.inl ⟨o, upd_same, hd⟩) (.cons (.str _) (.cons (Rp.sub gr.ff rw_) .nil)))
      cases r0 with
      | slot i => cases g3
      | frz w => cases g3; exact fin (Sub.refl _) e1 rv rfl rfl
      | own w =>
        obtain ⟨F2, q2, e2, r2⟩ := rv.good e1
        cases g3; exact fin q2 e2 r2 rfl rfl
  | none =>
    rw [hΦ] at g3
    right
    cases hΞ : (p.cf n).Ξ f ds with
    | none => rw [hΞ] at g3; cases g3
    | some jv =>
      obtain ⟨j, v⟩ := jv
      rw [hΞ] at g3
      refine ⟨j, v, rfl, fun H' F' cls dd q1 e1 xr => ?_⟩
      have g3 : (match d.res j v with | some w => RE.ok (Rv.frz w) s1 | none => .stuck) = .ok r s' := g3
      cases hr : d.res j v with
      | none => rw [hr] at g3; cases g3
      | some w =>
        rw [hr] at g3
        cases g3
        exact wish_of c xr (fun z H2 F2 gr rp => k z H2 F2 (q1.trans gr.ff) (e1.grow gr) rp) e1.fh (metH_ex c hm) hr
theorem fun_kp {x : Str} {st : Stmt} {fa : Addr} {fd : FuncData} (h : Fun K x x st fa fd) : PySem.W.keepIn K (.ref fa) = true := h.kp
theorem se_met {m f : Nat} {d : MetD} {es : List E} (hs : ∀ S, SEs p γ n S es) : SE p γ n S (.met m d f es) := fun X x c h => by
  simp only [chk] at h
  split at h
  case h_2 => cases h
  rename_i y py ps b ls lp pos
  simp only [Bool.and_eq_true, decide_eq_true_eq] at h
  obtain ⟨⟨⟨⟨⟨⟨⟨h1, h2⟩, hgr⟩, h3⟩, h4⟩, h5⟩, h6⟩, h7⟩ := h
  have hgd : d.hasRep = true → X.A.guards = some [] := fun z => c.grd (by rw [z] at hgr; simpa using hgr)
  have hrp : X.mg "repr" = none := c.blt _ (by decide)
  split at h7
  case h_2 => cases h7
  rename_i z pz ys pb
  simp only [Bool.and_eq_true, decide_eq_true_eq] at h7
  obtain ⟨⟨⟨⟨⟨⟨k1, kg⟩, k2⟩, k3⟩, k4⟩, k5⟩, k6⟩ := h7
  obtain ⟨cc, P, l1, l2, l3, l4⟩ := c.lam h1
  obtain ⟨y', Ng, a, st, fa, fd, m1, m2, m3, m4, m5, m6, m7, m8, m9⟩ := (c.met m d h2).ex
  rw [h3] at m1
  cases m1
  obtain ⟨oc, od, kV, doc, pm, an, cdv, ct, osl, rfl, lk, hcd⟩ := m4.ex
  have hva : Vis (defScope st) a ∧ plainName a = true := by
    have := m9
    unfold metB at this
    split at this
    case h_2 => cases this
    simp only [Bool.and_eq_true, decide_eq_true_eq] at this
    obtain ⟨⟨⟨⟨_, b2⟩, b3⟩, b4⟩, _⟩ := this
    rw [m7] at b2
    cases b2
    exact ⟨visB_ok b3, b4⟩
  have h0 : ∀ f : Addr, (L2.start Ng [V.ref f])[0]? = some (some (V.ref f)) := fun f => rfl
  refine PE.imp (LamX.pe_lamcall (T := γ.tb) (k := 5 * n) (t := fun Ex σ H Q => ∃ B s, tCB X.K γ (p.cf n) f B s es Ex σ H Q) (gloB_ok rfl h4) m3 m4.kp lk hcd m5 m6 m7 hva.1 (met_gives c.xs hrp c.u hgd m9 m7 m8 h0) l2 l1 l3 l4 ((c.roomL h1).mono (by omega)) (LamX.lamS_by h6) (lam_dflt h5) (fun _ _ _ _ _ => lam_bind h5)
    (fun A outer s H Ex f' c' hr => pe_callLam (Ex := Ex) (XC.lamc c hr) lam_takes (hs _) k1 (by simpa using kg) k2 k3 k4 k5 k6) (plainName_ok m2).1 (plainName_ok hva.2).1 (plainName_ok hva.2).2) fun σ H Q q => ?_
  obtain ⟨B, s, r0, s', hv, F, en, k⟩ := q
  obtain ⟨rs, s1, g1, w1⟩ := bind_inv hv
  obtain ⟨ds, s2, g2, w2⟩ := bind_inv w1
  have e2 := fzs_same g2
  subst e2
  unfold metB at m9
  split at m9
  case h_2 => cases m9
  simp only [Bool.and_eq_true, decide_eq_true_eq] at m9
  exact ⟨en.tab, fun H1 x1 t1 => met_wish c m9.2 g1 g2 w2 (en.ext x1 t1) k⟩
/-- the same of a name that holds a def -/
theorem met_wishV {X : Cx} (c : XC p γ n S X) {N : List Str} {sc : Scope} {hs : List ExceptHandler} {B : Bs} {d : MetD} {i f : Nat} {fa : Addr} {es : List E} {s s1 s' : Ev.Env} {rs : List Rv} {ds : List PV} {r : Rv} {F H : Hp} {σ : L2.St} {Q : VK} (hm : metH N sc S.xs d.hs hs = true) (ha : σ[i]? = some (some (.ref fa))) (hf : γ.fs f = some fa)
    (g1 : evs (p.cf n) es s = .ok rs s1) (g2 : fzs rs s1 = .ok ds s1) (g3 : metM d (callX (p.cf n) f ds) s1 = .ok r s') (en : EnvR X.K γ B F H σ s) (k : ∀ v H' F', Sub F F' → EnvR X.K γ B F' H' σ s' → RvR X.K B F' H' σ s' v r → Q v H') :
    TMet X.K γ d (fun Ex H' Q' => ∃ B s f fa, σ[i]? = some (some (.ref fa)) ∧ γ.fs f = some fa ∧ tCB X.K γ (p.cf n) f B s es Ex σ H' Q') H Q := by
  obtain ⟨B, s, q⟩ := met_wish c hm g1 g2 g3 en k
  exact ⟨B, s, f, fa, ha, hf, q⟩
theorem se_metv {m i : Nat} {d : MetD} {es : List E} (hs : ∀ S, SEs p γ n S es) : SE p γ n S (.metv m d i es) := fun X x c h => by
  simp only [chk] at h
  split at h
  case h_2 => cases h
  rename_i y py ps b ls lp pos
  simp only [Bool.and_eq_true, decide_eq_true_eq] at h
  obtain ⟨⟨⟨⟨⟨⟨⟨h1, h2⟩, hgr⟩, h3⟩, h4⟩, h5⟩, h6⟩, h7⟩ := h
  have hgd : d.hasRep = true → X.A.guards = some [] := fun z => c.grd (by rw [z] at hgr; simpa using hgr)
  have hrp : X.mg "repr" = none := c.blt _ (by decide)
  split at h7
  case h_2 => cases h7
  rename_i z pz ys pb
  simp only [Bool.and_eq_true] at h7
  obtain ⟨⟨⟨k1, k4⟩, k5⟩, k6⟩ := h7
  obtain ⟨cc, P, l1, l2, l3, l4⟩ := c.lam h1
  obtain ⟨y', Ng, a, st, fa, fd, m1, m2, m3, m4, m5, m6, m7, m8, m9⟩ := (c.met m d h2).ex
  rw [h3] at m1
  cases m1
  obtain ⟨oc, od, kV, doc, pm, an, cdv, ct, osl, rfl, lk, hcd⟩ := m4.ex
  have hva : Vis (defScope st) a ∧ plainName a = true := by
    have := m9
    unfold metB at this
    split at this
    case h_2 => cases this
    simp only [Bool.and_eq_true, decide_eq_true_eq] at this
    obtain ⟨⟨⟨⟨_, b2⟩, b3⟩, b4⟩, _⟩ := this
    rw [m7] at b2
    cases b2
    exact ⟨visB_ok b3, b4⟩
  have h0 : ∀ f : Addr, (L2.start Ng [V.ref f])[0]? = some (some (V.ref f)) := fun f => rfl
  refine PE.imp (LamX.pe_lamcall (T := γ.tb) (k := 5 * n) (t := fun Ex σ H Q => ∃ B s f fa, σ[i]? = some (some (.ref fa)) ∧ γ.fs f = some fa ∧ tCB X.K γ (p.cf n) f B s es Ex σ H Q) (gloB_ok rfl h4) m3 m4.kp lk hcd m5 m6 m7 hva.1 (met_gives c.xs hrp c.u hgd m9 m7 m8 h0) l2 l1 l3 l4 ((c.roomL h1).mono (by omega)) (LamX.lamS_by h6) (lam_dflt h5) (fun _ _ _ _ _ => lam_bind h5)
    (fun A outer s H Ex f' c' hr => pe_callVLam (Ex := Ex) (XC.lamc c hr) lam_takes (hs _) k1 k4 k5 k6) (plainName_ok m2).1 (plainName_ok hva.2).1 (plainName_ok hva.2).2) fun σ H Q q => ?_
  obtain ⟨B, s, r0, s', hv, F, en, k⟩ := q
  obtain ⟨f, s0, g0, w0⟩ := bind_inv hv
  obtain ⟨rfl, hf⟩ := lookFn_inv g0
  obtain ⟨rs, s1, g1, w1⟩ := bind_inv w0
  obtain ⟨ds, s2, g2, w2⟩ := bind_inv w1
  have e2 := fzs_same g2
  subst e2
  obtain ⟨fa2, ha, hfa⟩ := en.slot i _ hf
  unfold metB at m9
  split at m9
  case h_2 => cases m9
  simp only [Bool.and_eq_true, decide_eq_true_eq] at m9
  exact ⟨en.tab, fun H1 x1 t1 => met_wishV c m9.2 ha hfa g1 g2 w2 (en.ext x1 t1) k⟩
end
end Ev

/-! Ev15: targets, comprehensions. -/
namespace Ev
open PySem PySem.Spec L2
section
variable {p : Prg} {n : Nat} {S : Sx} {K : Frag} {γ : Gt} {c : Cf}
theorem asg_cons {e : Expr} {es : List Expr} {env : PySem.Env} (h : notStar e = true) : assignEach (e :: es) env = (false, assign e env) :: assignEach es env := by
  cases e <;> first | rfl | cases h
theorem asg_len {env : PySem.Env} : ∀ {es : List Expr}, es.all notStar = true → (assignEach es env).length = es.length
  | [], _ => rfl
  | e :: es, h => by
    rw [List.all_cons, Bool.and_eq_true] at h
    rw [asg_cons h.1, List.length_cons, asg_len h.2, List.length_cons]
theorem asg_find {env : PySem.Env} : ∀ {es : List Expr}, es.all notStar = true → (assignEach es env).findIdx? (·.1) = none
  | [], _ => rfl
  | e :: es, h => by
    rw [List.all_cons, Bool.and_eq_true] at h
    rw [asg_cons h.1, List.findIdx?_cons]
    simp [asg_find h.2]
def tUG (K : Frag) (γ : Gt) (t : Tg) : TG := fun v σ H Q => ∃ B F s d s', EnvR K γ B F H σ s ∧ RpW K (isTupT t) F v d ∧ bindT t d s = .ok () s' ∧
  ∀ σ', EnvR K γ B F H σ' s' → σ'.length = σ.length → (∀ i, i ∉ tgSlots t → σ'[i]? = σ[i]?) → Q σ' H
def tUGs (K : Frag) (γ : Gt) (ts : List Tg) : TGs := fun vs σ H Q => ∃ B F s ds s', EnvR K γ B F H σ s ∧ RpAll K F vs ds ∧ ds.length = ts.length ∧ bindTs ts ds s = .ok () s' ∧
  ∀ σ', EnvR K γ B F H σ' s' → σ'.length = σ.length → (∀ i, i ∉ tgSlots.tgSlotsL ts → σ'[i]? = σ[i]?) → Q σ' H
/-- who may store here -/
structure XT (X : Cx) (own : Str → Bool) : Prop where
  fn : ∀ x, own x = true → X.fn x = true
mutual
theorem sg_tg : ∀ (t : Tg) {X : Cx} {x : Expr} {own : Str → Bool}, XC p γ n S X → XT X own → chkT S X.env.scope own t x = true → PG X x (tUG X.K γ t)
  | .name i, X, x, own, c, xt, h => by
    simp only [chkT] at h
    split at h
    case h_2 => cases h
    rename_i y pos
    simp only [Bool.and_eq_true, decide_eq_true_eq, Bool.or_eq_true] at h
    obtain ⟨⟨h1, h2⟩, h3⟩ := h
    have hf : X.fn y = true ∨ X.env.scope.names.lookup y = some .local := by
      rcases h3 with h3 | h3
      · exact .inl (xt.fn y h3)
      · exact .inr h3
    refine PG.imp (pg_name c.nd (by rw [c.hN]; exact h1) (locB_ok h2) hf) fun v σ H Q q => ?_
    obtain ⟨B, F, s, d, s', en, r, hb, k⟩ := q
    have hb : store i (.frz d) s = .ok () s' := by simpa only [bindT] using hb
    refine k _ (store_env en hb (RpW.strong r)) (by simp) fun j hj => ?_
    simp only [tgSlots, List.mem_singleton] at hj
    exact List.getElem?_set_ne (Ne.symm hj)
  | .tup ts, X, x, own, c, xt, h => by
    simp only [chkT] at h
    split at h
    case h_2 => cases h
    rename_i xs k0 pos
    rw [Bool.and_eq_true] at h
    have pgs := sg_tgs ts (xs := xs) c xt h.1 h.2
    refine PG.imp (pg_tup (n := xs.length) c.calm pgs (asg_len h.2) (asg_find h.2)) fun v σ H Q q => ?_
    obtain ⟨B, F, s, d, s', en, r, hb, k⟩ := q
    cases d with
    | tuple ds =>
      simp only [bindT] at hb
      split at hb
      · rename_i hl
        obtain ⟨a', xs', rfl, a, b⟩ := r.tup
        · refine ⟨_, _, rfl, SqT.sub en.fh a, ?_, B, F, s, ds, s', en, b, hl, hb, fun σ' e' l' o' => k σ' e' l' fun i hi => o' i ?_⟩
          · rw [b.length, hl]; exact chkTs_len h.1
          · simpa only [tgSlots] using hi
      · cases hb
    | _ => simp only [bindT] at hb; cases hb
theorem sg_tgs : ∀ (ts : List Tg) {X : Cx} {xs : List Expr} {own : Str → Bool}, XC p γ n S X → XT X own → chkTs S X.env.scope own ts xs = true → xs.all notStar = true → PGs X xs (tUGs X.K γ ts)
  | [], X, xs, own, c, xt, h, hn => by
    simp only [chkTs] at h
    split at h
    case h_2 => cases h
    refine ⟨fun pins s σ H vs us Q I r q => ?_⟩
    obtain ⟨B, F, s0, ds, s', en, ra, hl, hb, k⟩ := q
    cases ds with
    | cons d ds => simp at hl
    | nil =>
      obtain rfl := ra.nil_inv
      refine pgs_nil.run pins s σ H [] us Q I r ⟨rfl, ?_⟩
      simp only [bindTs] at hb
      obtain ⟨_, rfl⟩ := pure_inv hb
      exact k σ en rfl fun _ _ => rfl
  | t :: ts, X, xs, own, c, xt, h, hn => by
    simp only [chkTs] at h
    split at h
    case h_2 => cases h
    rename_i x ys
    rw [Bool.and_eq_true] at h
    rw [List.all_cons, Bool.and_eq_true] at hn
    have p1 := sg_tg t (x := x) c xt h.1
    have p2 := sg_tgs ts (xs := ys) c xt h.2 hn.2
    refine ⟨fun pins s σ H vs us Q I r q => ?_⟩
    refine (pgs_cons p1 p2 (by rw [asg_cons hn.1]; rfl)).run pins s σ H vs us Q I r ?_
    obtain ⟨B, F, s0, ds, s', en, ra, hl, hb, k⟩ := q
    cases ds with
    | nil => simp at hl
    | cons d ds =>
      obtain ⟨v, ws, rfl, r1, r2⟩ := ra.cons_inv
      simp only [bindTs] at hb
      obtain ⟨_, s1, g1, g2⟩ := bind_inv hb
      refine ⟨v, ws, rfl, B, F, s0, d, s1, en, .inl r1, g1, fun σ1 e1 l1 o1 => ?_⟩
      refine ⟨B, F, s1, ds, s', e1, r2, by simpa using hl, g2, fun σ2 e2 l2 o2 => k σ2 e2 (l2.trans l1) fun i hi => ?_⟩
      simp only [tgSlots.tgSlotsL, List.mem_append, not_or] at hi
      rw [o2 i hi.2, o1 i hi.1]
theorem chkTs_len : ∀ {ts : List Tg} {sc : Scope} {own : Str → Bool} {xs : List Expr}, chkTs S sc own ts xs = true → ts.length = xs.length
  | [], _, _, xs, h => by cases xs <;> first | rfl | (simp [chkTs] at h)
  | t :: ts, _, _, [], h => by simp [chkTs] at h
  | t :: ts, _, _, x :: xs, h => by
    simp only [chkTs, Bool.and_eq_true] at h
    simp [chkTs_len h.2]
end
end
end Ev

/-! Ev16: list comprehensions. -/
namespace Ev
open PySem PySem.Spec L2
section
variable {K : Frag} {γ : Gt} {B : Bs} {F H F' H' : Hp} {σ σ' : L2.St} {s : Env}
theorem wipe_set (v : Nat) : ∀ (vs : List Nat) (σ : L2.St), wipe (σ.set v none) vs = (wipe σ vs).set v none
  | [], _ => rfl
  | u :: us, σ => by
    show (wipe (σ.set v none) us).set u none = ((wipe σ us).set u none).set v none
    rw [wipe_set v us σ]
    by_cases h : v = u
    · subst h; rfl
    · exact List.set_comm _ _ h
theorem wipe_get_out {σ : L2.St} {i : Nat} : ∀ {vs : List Nat}, i ∉ vs → (wipe σ vs)[i]? = σ[i]?
  | [], _ => rfl
  | v :: vs, h => by
    simp only [List.mem_cons, not_or] at h
    show ((wipe σ vs).set v none)[i]? = _
    rw [List.getElem?_set_ne (Ne.symm h.1), wipe_get_out h.2]
theorem wipe_get_in {σ : L2.St} {i : Nat} : ∀ {vs : List Nat}, i ∈ vs → (wipe σ vs)[i]? = if i < σ.length then some none else none
  | v :: vs, h => by
    show ((wipe σ vs).set v none)[i]? = _
    by_cases e : v = i
    · subst e
      by_cases hl : v < σ.length
      · rw [List.getElem?_set_self (by rw [wipe_length]; exact hl), if_pos hl]
      · rw [List.getElem?_eq_none (by simp [wipe_length]; omega), if_neg hl]
    · rw [List.getElem?_set_ne e]
      rcases List.mem_cons.mp h with z | z
      · exact (e z.symm).elim
      · exact wipe_get_in z
theorem wipe_ext {σ σ' : L2.St} {vs : List Nat} (hl : σ'.length = σ.length) (ho : ∀ i, i ∉ vs → σ'[i]? = σ[i]?) : wipe σ' vs = wipe σ vs := by
  refine List.ext_getElem? fun i => ?_
  by_cases h : i ∈ vs
  · rw [wipe_get_in h, wipe_get_in h, hl]
  · rw [wipe_get_out h, wipe_get_out h, ho i h]
theorem wipe_wipe {σ : L2.St} {vs : List Nat} : wipe (wipe σ vs) vs = wipe σ vs := wipe_ext (wipe_length _ _) fun i h => wipe_get_out h
/-- the own names of a block hidden -/
theorem EnvR.hidden : ∀ (vs : List Nat) {σ : L2.St} {s : Env}, EnvR K γ B F H σ s → (vs.all fun i => (s[i]?.map hideable).getD false) = true → EnvR K γ B F H (wipe σ vs) (hide vs s)
  | [], σ, s, en, _ => en
  | v :: vs, σ, s, en, h => by
    rw [List.all_cons, Bool.and_eq_true] at h
    obtain ⟨h1, h2⟩ := h
    cases hv : s[v]? with
    | none => rw [hv] at h1; cases h1
    | some y =>
      rw [hv] at h1
      have ny : isIo y = false := by cases y <;> first | rfl | cases h1
      have e1 : EnvR K γ B F H (σ.set v none) (s.set v .emp) := en.put hv ny (by simp) (fun j n => List.getElem?_set_ne (Ne.symm n)) trivial rfl
      have hi : v < s.length := (List.getElem?_eq_some_iff.mp hv).1
      have h3 : (vs.all fun i => ((s.set v .emp)[i]?.map hideable).getD false) = true := by
        rw [List.all_eq_true] at h2 ⊢
        intro i him
        by_cases e : v = i
        · subst e; rw [List.getElem?_set_self hi]; rfl
        · rw [List.getElem?_set_ne e]; exact h2 i him
      have := EnvR.hidden vs e1 h3
      rw [wipe_set] at this
      exact this
theorem hideM_inv {vs : List Nat} {s' : Env} (h : hideM vs s = .ok () s') : (vs.all fun i => (s[i]?.map hideable).getD false) = true ∧ s' = hide vs s := by
  unfold hideM at h
  split at h
  · rename_i hh
    injection h with _ h
    exact ⟨hh, h.symm⟩
  · cases h
theorem hide_get_in {i : Nat} : ∀ {vs : List Nat} {s : Env}, i ∈ vs → i < s.length → (hide vs s)[i]? = some .emp
  | v :: vs, s, h, hl => by
    show (hide vs (s.set v .emp))[i]? = _
    by_cases hm : i ∈ vs
    · exact hide_get_in hm (by simpa using hl)
    · rcases List.mem_cons.mp h with e | e
      · subst e
        rw [hide_get_out hm, List.getElem?_set_self hl]
      · exact (hm e).elim
where
  hide_get_out {i : Nat} : ∀ {vs : List Nat} {s : Env}, i ∉ vs → (hide vs s)[i]? = s[i]?
  | [], _, _ => rfl
  | v :: vs, s, h => by
    simp only [List.mem_cons, not_or] at h
    show (hide vs (s.set v .emp))[i]? = _
    rw [hide_get_out h.2, List.getElem?_set_ne (Ne.symm h.1)]
/-- they are seen again -/
theorem EnvR.restored {s0 : Env} : ∀ (vs : List Nat) {σ1 : L2.St} {s : Env}, EnvR K γ B F H σ1 s → σ1.length = σ.length → (∀ i, i ∉ vs → σ1[i]? = σ[i]?) → (∀ i ∈ vs, ∃ y, s[i]? = some y ∧ isIo y = false) →
    (∀ i ∈ vs, ∃ x, s0[i]? = some x ∧ hideable x = true ∧ SlotR K γ B F H σ i x) → EnvR K γ B F H σ (restore vs s0 s)
  | [], σ1, s, en, hl, ho, _, _ => by
    have : σ1 = σ := List.ext_getElem? fun i => ho i (by simp)
    subst this
    exact en
  | v :: vs, σ1, s, en, hl, ho, hs, h0 => by
    obtain ⟨y, hy, ny⟩ := hs v (by simp)
    obtain ⟨x, hx, hh, hr⟩ := h0 v (by simp)
    have hv : v < σ1.length := en.lt hy
    have hget : σ[v]? = some σ[v] := List.getElem?_eq_getElem (by omega)
    have e1 : EnvR K γ B F H (σ1.set v σ[v]) (s.set v x) := by
      refine en.put hy ny (by simp) (fun j n => List.getElem?_set_ne (Ne.symm n)) (hr.other ?_) (by cases x <;> first | rfl | cases hh)
      rw [List.getElem?_set_self hv, hget]
    have hgd : s0.getD v .emp = x := by rw [List.getD_eq_getElem?_getD, hx]; rfl
    show EnvR K γ B F H σ (restore vs s0 (s.set v (s0.getD v .emp)))
    rw [hgd]
    refine EnvR.restored vs e1 (by simpa using hl) (fun i hi => ?_) (fun i hi => ?_) (fun i hi => h0 i (List.mem_cons_of_mem _ hi))
    · by_cases e : v = i
      · subst e; rw [List.getElem?_set_self hv, hget]
      · rw [List.getElem?_set_ne e]; exact ho i (by simp only [List.mem_cons, not_or]; exact ⟨fun z => e z.symm, hi⟩)
    · by_cases e : v = i
      · subst e
        exact ⟨x, List.getElem?_set_self (List.getElem?_eq_some_iff.mp hy).1, by cases x <;> first | rfl | cases hh⟩
      · rw [List.getElem?_set_ne e]; exact hs i (List.mem_cons_of_mem _ hi)
/-- a new thing at hand -/
abbrev Bs.with (B : Bs) (a : Addr) (d : PV) : Bs := { B with T := (a, d) :: B.T }
theorem SlotR.base {B' : Bs} (h0 : B'.H0 = B.H0) (hi : B'.I = B.I) {i : Nat} {x : Slot} (h : SlotR K γ B F H σ i x) : SlotR K γ B' F H σ i x := by
  cases x with
  | emp => trivial
  | frz d => exact h
  | own d => obtain ⟨a, h1, h2, h3, h4⟩ := h; exact ⟨a, h1, h2, by rw [h0]; exact h3, h4⟩
  | io d => obtain ⟨a, h1, h2, h3, h4⟩ := h; exact ⟨a, h1, by rw [hi]; exact h2, h3, h4⟩
  | fn f => exact h
/-- a result of one's own is kept at hand -/
theorem EnvR.hold (en : EnvR K γ B F H σ s) {a : Addr} {d : PV} (r : RvR K B F H σ s (.ref a) (.own d)) : EnvR K γ (B.with a d) F H σ s := by
  obtain ⟨a', e, h1, h2, h3, h4, h5⟩ := r
  cases e
  refine ⟨en.fh, en.len, fun i x h => (en.slot i x h).base rfl rfl, en.apart, fun p hp => ?_, fun p hp => ?_, ?_, en.lent, en.keep, en.fnew, en.fold, en.tab, en.ftb⟩
  · rcases List.mem_cons.mp hp with rfl | hp
    · exact ⟨h1, h2, h3⟩
    · exact en.tmp p hp
  · rcases List.mem_cons.mp hp with rfl | hp
    · exact h4
    · exact en.tmpA p hp
  · show ((a, d).1 :: B.T.map (·.1)).Nodup
    refine List.nodup_cons.mpr ⟨fun hm => ?_, en.tmpN⟩
    obtain ⟨p, hp, e⟩ := List.mem_map.mp hm
    exact h5 p hp e
/-- .. and let go -/
theorem EnvR.unhold {a : Addr} {d : PV} (en : EnvR K γ (B.with a d) F H σ s) : EnvR K γ B F H σ s ∧ RvR K B F H σ s (.ref a) (.own d) := by
  have hn := en.tmpN
  have hn : ((a, d).1 :: B.T.map (·.1)).Nodup := hn
  obtain ⟨n1, n2⟩ := List.nodup_cons.mp hn
  refine ⟨⟨en.fh, en.len, fun i x h => (en.slot i x h).base rfl rfl, en.apart, fun p hp => en.tmp p (List.mem_cons_of_mem _ hp), fun p hp => en.tmpA p (List.mem_cons_of_mem _ hp), n2, en.lent, en.keep, en.fnew, en.fold, en.tab, en.ftb⟩, ?_⟩
  obtain ⟨h1, h2, h3⟩ := en.tmp (a, d) List.mem_cons_self
  exact ⟨a, rfl, h1, h2, h3, en.tmpA (a, d) List.mem_cons_self, fun p hp z => n1 (List.mem_map.mpr ⟨p, hp, z⟩)⟩
/-- the list at hand grows -/
theorem EnvR.tmpSetO {a : Addr} {d0 e : PV} {ob : HO} (en : EnvR K γ (B.with a d0) F H σ s) (r : OwnR K F (upd H a ob) a e) : EnvR K γ (B.with a e) F (upd H a ob) σ s := by
  obtain ⟨h1, h2, h3⟩ := en.tmp (a, d0) List.mem_cons_self
  have hn : ((a, d0).1 :: B.T.map (·.1)).Nodup := en.tmpN
  obtain ⟨n1, n2⟩ := List.nodup_cons.mp hn
  have st : ∀ {b : Addr} {o : HO}, b ≠ a → H b = some o → upd H a ob b = some o := fun n h => by rw [upd_ne n]; exact h
  refine ⟨fun b o h => st (fun z => ?_) (en.fh b o h), en.len, fun i x h => ?_, en.apart, fun p hp => ?_, fun p hp => ?_, hn, en.lent, fun b o h nl => st (fun z => ?_) (en.keep b o h nl), en.fnew, en.fold, Tabs.writeO en.tab h3, en.ftb⟩
  · rw [z] at h; rw [h1] at h; cases h
  · have w := en.slot i x h
    cases x with
    | emp => trivial
    | frz d => exact w
    | fn f => exact w
    | own d =>
      obtain ⟨b, w1, w2, w3, w4⟩ := w
      have nb : b ≠ a := fun z => en.tmpA (a, d0) List.mem_cons_self i _ h rfl (by rw [w1, z])
      exact ⟨b, w1, w2, w3, w4.stay (Sub.refl F) fun o ho => st nb ho⟩
    | io d =>
      obtain ⟨b, w1, w2, w3, w4⟩ := w
      have nb : b ≠ a := fun z => en.tmpA (a, d0) List.mem_cons_self i _ h rfl (by rw [w1, z])
      exact ⟨b, w1, w2, w3, w4.stay (Sub.refl F) fun o ho => st nb ho⟩
  · rcases List.mem_cons.mp hp with rfl | hp
    · exact ⟨h1, h2, r⟩
    · obtain ⟨g1, g2, g3⟩ := en.tmp p (List.mem_cons_of_mem _ hp)
      have nb : p.1 ≠ a := fun z => n1 (List.mem_map.mpr ⟨p, hp, z⟩)
      exact ⟨g1, g2, g3.stay (Sub.refl F) fun o ho => st nb ho⟩
  · rcases List.mem_cons.mp hp with rfl | hp
    · exact en.tmpA (a, d0) List.mem_cons_self
    · exact en.tmpA p (List.mem_cons_of_mem _ hp)
  · rw [z] at h
    have h2 : B.H0 a = none := h2
    rw [h2] at h; cases h
theorem EnvR.tmpSet {a : Addr} {ds es : List PV} {ys : List V} (en : EnvR K γ (B.with a (.list ds)) F H σ s) (r : RpAll K F ys es) : EnvR K γ (B.with a (.list es)) F (upd H a (.lst ys)) σ s :=
  en.tmpSetO (e := .list es) ⟨ys, upd_same, r⟩
theorem EnvR.tmpSetD {a : Addr} {ds es : List (PV × PV)} {ys : List (Key × V)} (en : EnvR K γ (B.with a (.dict ds)) F H σ s) (r : RpKv K F ys es) : EnvR K γ (B.with a (.dict es)) F (upd H a (.dK ys)) σ s :=
  en.tmpSetO (e := .dict es) ⟨ys, upd_same, r⟩
end
end Ev

/-! Ev17: a list comprehension's rule. -/
namespace Ev
open PySem PySem.Spec L2
section
variable {p : Prg} {n : Nat} {S : Sx} {K : Frag} {γ : Gt} {c : Cf}
def tUTs (K : Frag) (γ : Gt) (c : Cf) (ifs : List E) : TT := fun σ H Q => ∃ B s b s', evT c ifs s = .ok b s' ∧ ∃ F, EnvR K γ B F H σ s ∧ ∀ H' F', Sub F F' → EnvR K γ B F' H' σ s' → Q b H'
theorem pts_all {ifs : List E} {xs : List Expr} (ht : ∀ e ∈ ifs, ST p γ n S e) {X : Cx} (c : XC p γ n S X) (h : chks S X.env.scope ifs xs = true) (hl : xs.length ≤ 1) : PTs X xs (tUTs X.K γ (p.cf n) ifs) := by
  match xs, hl, h with
  | [], _, h =>
    obtain rfl := chks_nil h
    refine ⟨fun pins s σ H Q I q => ?_⟩
    obtain ⟨B, s0, b, s', hv, F, en, k⟩ := q
    obtain ⟨rfl, rfl⟩ := pure_inv hv
    exact pts_nil.run pins s σ H Q I (k H F (Sub.refl F) en)
  | [x], _, h =>
    obtain ⟨e, es, rfl, h1, h2⟩ := chks_cons h
    obtain rfl := chks_nil h2
    refine ⟨fun pins s σ H Q I q => ?_⟩
    obtain ⟨B, s0, b, s', hv, F, en, k⟩ := q
    obtain ⟨r1, s1, g1, w1⟩ := bind_inv hv
    obtain ⟨u, s2, g2, w2⟩ := bind_inv w1
    obtain ⟨b1, s3, g3, w3⟩ := bind_inv w2
    obtain ⟨g3', e3⟩ := opt_inv g3
    have e2 := opd_same g2
    subst e2
    subst e3
    have hb : b1 = b ∧ s' = s3 := by
      split at w3
      · rename_i hb1
        obtain ⟨e1, e2⟩ := pure_inv w3
        exact ⟨by rw [e1, hb1], e2⟩
      · rename_i hb1
        obtain ⟨e1, e2⟩ := pure_inv w3
        exact ⟨by rw [e1]; simpa using hb1, e2⟩
    obtain ⟨rfl, rfl⟩ := hb
    exact (pts_one (ht e (by simp) X x c h1)).run pins s σ H Q I (tUT_good g1 g2 g3' en k)
  | _ :: _ :: _, hl, _ => simp at hl
/-- One turn of a comprehension. -/
def lcTurn (c : Cf) (tg : Tg) (ifs : List E) (elt : E) : PV → M (Option PV) := fun x => do
  bindT tg x
  let b ← evT c ifs
  if b then do let r ← ev c elt; let v ← fz r; pure (some v) else pure none
theorem drop_cons {α : Type} {xs : List α} {i : Nat} {d : α} (h : xs[i]? = some d) : xs.drop i = d :: xs.drop (i + 1) := by
  obtain ⟨h1, h2⟩ := List.getElem?_eq_some_iff.mp h
  rw [← h2]
  exact List.drop_eq_getElem_cons h1
/-- a comprehension's parts -/
def LcP (p : Prg) (γ : Gt) (n : Nat) (X : Cx) (own : List (Str × Nat)) (elt : E) (tg : Tg) (k : ItK) (its ifs : List E) (x : Expr) : Prop :=
  ∃ (elt' tg' it' : Expr) (ifs' : List Expr) (scope : Scope) (pos : Pos) (wi : TI) (g : TG) (tt : TT) (te : TE), x = .ListComp elt' [⟨tg', it', ifs', 0⟩] scope pos ∧ PI X tg' it' wi ∧ BlkOk X.N X.env.scope scope own ∧
    (∀ (s : Shared) (H : Hp) (C : Addr) (cl : List (Str × Addr)) (fp : List Addr), PG (X.blk s H scope (compEnvC scope cl C X.env) fp) tg' g) ∧
    (∀ (s : Shared) (H : Hp) (C : Addr) (cl : List (Str × Addr)) (fp : List Addr), PTs (X.blk s H scope (compEnvC scope cl C X.env) fp) ifs' tt) ∧
    (∀ (s : Shared) (H : Hp) (C : Addr) (cl : List (Str × Addr)) (fp : List Addr), PE (X.blk s H scope (compEnvC scope cl C X.env) fp) elt' te) ∧ notSet it' = true ∧
    ∀ σ H Q, tU X.K γ (p.cf n) (.lc own elt tg k its ifs) σ H Q → tLc wi g tt te (own.map (·.2)) σ H Q
theorem lc_parts {own : List (Str × Nat)} {elt : E} {tg : Tg} {k : ItK} {its ifs : List E} (helt : SE p γ n S elt) (hits : ∀ e ∈ its, SE p γ n S e) (hitss : SEs p γ n S its) (hifs : ∀ e ∈ ifs, ST p γ n S e) {X : Cx} {x : Expr} (c : XC p γ n S X) (h : chk S X.env.scope (.lc own elt tg k its ifs) x = true) : LcP p γ n X own elt tg k its ifs x := by
  simp only [chk] at h
  split at h
  case h_2 => cases h
  rename_i elt' tg' it' ifs' a scope pos
  simp only [Bool.and_eq_true, decide_eq_true_eq] at h
  obtain ⟨⟨⟨⟨⟨⟨⟨⟨rfl, h1⟩, h2⟩, h3⟩, h4⟩, h5⟩, h6⟩, h7⟩, h8⟩ := h
  split at h8
  case h_2 => cases h8
  rename_i ys hy
  have wi := si_all (k := k) hits hitss c hy h8
  have cb : ∀ (s : Shared) (H : Hp) (C : Addr) (cl : List (Str × Addr)) (fp : List Addr), XC p γ n S (X.blk s H scope (compEnvC scope cl C X.env) fp) := fun s H C cl fp => c.blk s H scope _ fp rfl rfl
  have sc : ∀ (s : Shared) (H : Hp) (C : Addr) (cl : List (Str × Addr)) (fp : List Addr), (X.blk s H scope (compEnvC scope cl C X.env) fp).env.scope = relS scope X.env.scope := fun _ _ _ _ _ => rfl
  refine ⟨elt', tg', it', ifs', scope, pos, tUI X.K γ (p.cf n) k its, tUG X.K γ tg, tUTs X.K γ (p.cf n) ifs, tU X.K γ (p.cf n) elt, rfl, wi, by rw [c.hN]; exact blkOk_by h1,
    (fun s H C cl fp => sg_tg tg (X := X.blk s H scope (compEnvC scope cl C X.env) fp) (cb s H C cl fp) (own := fun y => scope.names.lookup y == some .cell) ⟨fun x hx => hx⟩ h2),
    (fun s H C cl fp => pts_all (X := X.blk s H scope (compEnvC scope cl C X.env) fp) hifs (cb s H C cl fp) h4 h5),
    (fun s H C cl fp => helt _ elt' (cb s H C cl fp) h3), h7, fun σ H Q q => ?_⟩
  obtain ⟨B, s, r0, s', hv, F, en, kk⟩ := q
  obtain ⟨rs, s1, g1, w1⟩ := bind_inv hv
  obtain ⟨ds, s2, g2, w2⟩ := bind_inv w1
  obtain ⟨xs, s3, g3, w3⟩ := bind_inv w2
  obtain ⟨g3', e3⟩ := opt_inv g3
  have e2 : s2 = s1 := by
    clear w1 w2 w3 g3 e3
    revert g2
    generalize s1 = t
    intro g2
    exact fzs_same g2
  subst e2
  subst e3
  generalize hvs : own.map (·.2) = vs at w3 h6 ⊢
  unfold lcAll at w3
  obtain ⟨acc, se, w4, w5⟩ := RE.andThen_inv w3
  injection w5 with e4 e5
  subst e4
  obtain ⟨_, s4, w6, w7⟩ := bind_inv w4
  obtain ⟨hh, rfl⟩ := hideM_inv w6
  refine ⟨B, s, rs, s3, ds, xs, g1, g2, g3', F, en, fun J H1 F1 q1 e1 wd D hD => ?_⟩
  -- the invariant
  refine ⟨fun i m H => m = xs.length - i ∧ i ≤ xs.length ∧ ∃ F2 s2 a2, EnvR X.K γ (B.with D (.list a2)) F2 H (wipe σ vs) s2 ∧ Sub F1 F2 ∧ a2.length ≤ i ∧ (∀ j ∈ vs, s2[j]? = some .emp) ∧
    lcLoop vs (lcTurn (p.cf n) tg ifs elt) (xs.drop i) a2 s2 = .ok acc se, ⟨xs.length, by simp, Nat.zero_le _, ?_⟩, ?_⟩
  · have g : Grow F1 H1 F1 (upd H1 D (.lst [])) := Grow.own e1.fh hD
    have e2 := e1.grow g
    have r2 : RvR X.K B F1 (upd H1 D (.lst [])) σ s3 (.ref D) (.own (.list [])) := ResR.rv e1 g ⟨D, rfl, hD, e1.fh.none hD, [], upd_same, .nil⟩
    have e3 := (e2.hold r2).hidden vs hh
    refine ⟨F1, _, [], e3, Sub.refl F1, Nat.le_refl _, fun j hj => ?_, by rw [List.drop_zero]; exact w7⟩
    have hj' := List.all_eq_true.mp hh j hj
    refine hide_get_in hj ?_
    cases hs : s3[j]? with
    | none => rw [hs] at hj'; cases hj'
    | some y => exact (List.getElem?_eq_some_iff.mp hs).1
  · rintro i m H ⟨rfl, hi, F2, s2, a2, e2, sub2, ha2, hemp, hloop⟩
    have s12 : Sub F1 H := sub2.trans e2.fh
    by_cases hlt : i < xs.length
    · right
      refine ⟨wd.go i H hlt s12, fun H' => i + 1 ≤ xs.length ∧ ∃ F3 s3 a3, EnvR X.K γ (B.with D (.list a3)) F3 H' (wipe σ vs) s3 ∧ Sub F1 F3 ∧ a3.length ≤ i + 1 ∧ (∀ j ∈ vs, s3[j]? = some .emp) ∧ lcLoop vs (lcTurn (p.cf n) tg ifs elt) (xs.drop (i + 1)) a3 s3 = .ok acc se, fun H' hn => ⟨xs.length - (i + 1), by omega, rfl, hn.1, hn.2⟩, fun x H' hy' => ?_⟩
      obtain ⟨F3, d, g, hd, rd⟩ := wd.yld i F2 H x H' hlt sub2 e2.fh hy'
      rw [drop_cons hd] at hloop
      obtain ⟨ro, t1, f1, v1⟩ := bind_inv hloop
      obtain ⟨_, t2, f2, v2⟩ := bind_inv v1
      obtain ⟨hh2, rfl⟩ := hideM_inv f2
      obtain ⟨_, t3, f3, v3⟩ := bind_inv f1
      obtain ⟨b, t4, f4, v4⟩ := bind_inv v3
      have e3 := e2.grow g
      refine ⟨_, F3, s2, d, t3, e3, rd.mono (kind_tup hy h2), f3, fun σ2 e4 l4 o4 => ?_⟩
      have hw : wipe σ2 vs = wipe σ vs := by
        have : wipe σ2 vs = wipe (wipe σ vs) vs := wipe_ext l4 fun j hj => o4 j fun hm => hj (by
          have := List.all_eq_true.mp h6 j hm
          simpa using this)
        rw [this, wipe_wipe]
      refine ⟨hw, _, t3, b, t4, f4, F3, e4, fun H5 F5 q5 e5 => ?_⟩
      have fin : ∀ {H6 : Hp} {F6 : Hp} {a6 : List PV}, Sub F1 F6 → a6.length ≤ i + 1 → EnvR X.K γ (B.with D (.list a6)) F6 H6 σ2 t1 → lcLoop vs (lcTurn (p.cf n) tg ifs elt) (xs.drop (i + 1)) a6 (hide vs t1) = .ok acc se →
          i + 1 ≤ xs.length ∧ ∃ F3 s3 a3, EnvR X.K γ (B.with D (.list a3)) F3 H6 (wipe σ vs) s3 ∧ Sub F1 F3 ∧ a3.length ≤ i + 1 ∧ (∀ j ∈ vs, s3[j]? = some .emp) ∧ lcLoop vs (lcTurn (p.cf n) tg ifs elt) (xs.drop (i + 1)) a3 s3 = .ok acc se := by
        intro H6 F6 a6 q6 l6 e6 hl6
        refine ⟨hlt, F6, _, a6, ?_, q6, l6, fun j hj => ?_, hl6⟩
        · rw [← hw]; exact e6.hidden vs hh2
        · have hj' := List.all_eq_true.mp hh2 j hj
          refine hide_get_in hj ?_
          cases hs : t1[j]? with
          | none => rw [hs] at hj'; cases hj'
          | some y => exact (List.getElem?_eq_some_iff.mp hs).1
      cases b with
      | false =>
        rw [if_neg Bool.false_ne_true] at v4
        obtain ⟨rfl, rfl⟩ := pure_inv v4
        dsimp only
        rw [if_neg Bool.false_ne_true]
        exact fin (sub2.trans (g.ff.trans q5)) (by omega) e5 v2
      | true =>
        rw [if_pos rfl] at v4
        dsimp only
        rw [if_pos rfl]
        obtain ⟨r1, t5, f5, v5⟩ := bind_inv v4
        obtain ⟨dv, t6, f6, v6⟩ := bind_inv v5
        obtain ⟨rfl, rfl⟩ := pure_inv v6
        have et := fz_same f6
        subst et
        refine tU_good f5 e5 fun y H6 F6 q6 e6 ry => ?_
        obtain ⟨_, rdv⟩ := fz_ok ry f6
        obtain ⟨_, _, vsD, hDl, hDr⟩ := e6.tmp (D, .list a2) List.mem_cons_self
        refine ⟨vsD, hDl, ?_, ?_⟩
        · rw [hDr.length]
          have := wd.len
          omega
        · exact fin (sub2.trans (g.ff.trans (q5.trans q6))) (by simp; omega) (e6.tmpSet (hDr.append (.cons rdv .nil))) v2
    · left
      have ei : i = xs.length := by omega
      subst ei
      refine ⟨wd.stop H s12, ?_⟩
      rw [List.drop_length] at hloop
      obtain ⟨rfl, rfl⟩ := pure_inv hloop
      have e3 : EnvR X.K γ (B.with D (.list acc)) F2 H σ (restore vs s3 se) := by
        refine e2.restored vs (wipe_length _ _) (fun j hj => wipe_get_out hj) (fun j hj => ⟨_, hemp j hj, rfl⟩) fun j hj => ?_
        have hj' := List.all_eq_true.mp hh j hj
        cases hs : s3[j]? with
        | none => rw [hs] at hj'; cases hj'
        | some y =>
          rw [hs] at hj'
          refine ⟨y, rfl, by simpa using hj', ?_⟩
          have w := e1.slot j y hs
          cases y with
          | emp => trivial
          | frz d => obtain ⟨v, w1, w2⟩ := w; exact ⟨v, w1, Rp.sub sub2 w2⟩
          | own d => cases hj'
          | io d => cases hj'
          | fn f => cases hj'
      obtain ⟨e4, r4⟩ := e3.unhold
      rw [e5] at e4 r4
      exact kk _ H F2 (q1.trans sub2) e4 r4
theorem se_lc {own : List (Str × Nat)} {elt : E} {tg : Tg} {k : ItK} {its ifs : List E} (helt : SE p γ n S elt) (hits : ∀ e ∈ its, SE p γ n S e) (hitss : SEs p γ n S its) (hifs : ∀ e ∈ ifs, ST p γ n S e) : SE p γ n S (.lc own elt tg k its ifs) := fun X x c h => by
  obtain ⟨elt', tg', it', ifs', scope, pos, wi, g, tt, te, rfl, h1, h2, h3, h4, h5, h6, h7⟩ := lc_parts helt hits hitss hifs c h
  exact PE.imp (pe_lc (own := own) c.calm c.nd h1 h2 h3 h4 h5 (notSet_folded h6)) h7
end
end Ev

/-! EvC: dict comprehensions. -/
namespace Ev
open PySem PySem.Spec L2
section
variable {p : Prg} {n : Nat} {S : Sx} {K : Frag} {γ : Gt} {c : Cf}
def dcTurn (c : Cf) (tg : Tg) (ifs : List E) (ek el : E) : PV → M (Option (PV × PV)) := fun x => do
  bindT tg x
  let b ← evT c ifs
  if b then do let r ← ev c ek; let u ← fz r; let q ← ev c el; let v ← fz q; pure (some (u, v)) else pure none
/-- a dict comprehension's parts -/
def DcP (p : Prg) (γ : Gt) (n : Nat) (X : Cx) (own : List (Str × Nat)) (ek el : E) (tg : Tg) (k : ItK) (its ifs : List E) (x : Expr) : Prop :=
  ∃ (kx vx tg' it' : Expr) (ifs' : List Expr) (scope : Scope) (pos : Pos) (wi : TI) (g : TG) (tt : TT) (tk tv : TE), x = .DictComp kx vx [⟨tg', it', ifs', 0⟩] scope pos ∧ PI X tg' it' wi ∧ BlkOk X.N X.env.scope scope own ∧
    (∀ (s : Shared) (H : Hp) (C : Addr) (cl : List (Str × Addr)) (fp : List Addr), PG (X.blk s H scope (compEnvC scope cl C X.env) fp) tg' g) ∧
    (∀ (s : Shared) (H : Hp) (C : Addr) (cl : List (Str × Addr)) (fp : List Addr), PTs (X.blk s H scope (compEnvC scope cl C X.env) fp) ifs' tt) ∧
    (∀ (s : Shared) (H : Hp) (C : Addr) (cl : List (Str × Addr)) (fp : List Addr), PE (X.blk s H scope (compEnvC scope cl C X.env) fp) kx tk) ∧
    (∀ (s : Shared) (H : Hp) (C : Addr) (cl : List (Str × Addr)) (fp : List Addr), PE (X.blk s H scope (compEnvC scope cl C X.env) fp) vx tv) ∧ notSet it' = true ∧
    ∀ σ H Q, tU X.K γ (p.cf n) (.dc own ek el tg k its ifs) σ H Q → tDc wi g tt tk tv (own.map (·.2)) σ H Q
theorem dc_parts {own : List (Str × Nat)} {ek el : E} {tg : Tg} {k : ItK} {its ifs : List E} (hek : SE p γ n S ek) (helt : SE p γ n S el) (hits : ∀ e ∈ its, SE p γ n S e) (hitss : SEs p γ n S its) (hifs : ∀ e ∈ ifs, ST p γ n S e) {X : Cx} {x : Expr} (c : XC p γ n S X) (h : chk S X.env.scope (.dc own ek el tg k its ifs) x = true) : DcP p γ n X own ek el tg k its ifs x := by
  simp only [chk] at h
  split at h
  case h_2 => cases h
  rename_i kx vx tg' it' ifs' a scope pos
  simp only [Bool.and_eq_true, decide_eq_true_eq] at h
  obtain ⟨⟨⟨⟨⟨⟨⟨⟨⟨rfl, h1⟩, h2⟩, h3k⟩, h3⟩, h4⟩, h5⟩, h6⟩, h7⟩, h8⟩ := h
  split at h8
  case h_2 => cases h8
  rename_i ys hy
  have wi := si_all (k := k) hits hitss c hy h8
  have cb : ∀ (s : Shared) (H : Hp) (C : Addr) (cl : List (Str × Addr)) (fp : List Addr), XC p γ n S (X.blk s H scope (compEnvC scope cl C X.env) fp) := fun s H C cl fp => c.blk s H scope _ fp rfl rfl
  have sc : ∀ (s : Shared) (H : Hp) (C : Addr) (cl : List (Str × Addr)) (fp : List Addr), (X.blk s H scope (compEnvC scope cl C X.env) fp).env.scope = relS scope X.env.scope := fun _ _ _ _ _ => rfl
  refine ⟨kx, vx, tg', it', ifs', scope, pos, tUI X.K γ (p.cf n) k its, tUG X.K γ tg, tUTs X.K γ (p.cf n) ifs, tU X.K γ (p.cf n) ek, tU X.K γ (p.cf n) el, rfl, wi, by rw [c.hN]; exact blkOk_by h1,
    (fun s H C cl fp => sg_tg tg (X := X.blk s H scope (compEnvC scope cl C X.env) fp) (cb s H C cl fp) (own := fun y => scope.names.lookup y == some .cell) ⟨fun x hx => hx⟩ h2),
    (fun s H C cl fp => pts_all (X := X.blk s H scope (compEnvC scope cl C X.env) fp) hifs (cb s H C cl fp) h4 h5),
    (fun s H C cl fp => hek _ kx (cb s H C cl fp) h3k), (fun s H C cl fp => helt _ vx (cb s H C cl fp) h3), h7, fun σ H Q q => ?_⟩
  obtain ⟨B, s, r0, s', hv, F, en, kk⟩ := q
  obtain ⟨rs, s1, g1, w1⟩ := bind_inv hv
  obtain ⟨ds, s2, g2, w2⟩ := bind_inv w1
  obtain ⟨xs, s3, g3, w3⟩ := bind_inv w2
  obtain ⟨g3', e3⟩ := opt_inv g3
  have e2 : s2 = s1 := by
    clear w1 w2 w3 g3 e3
    revert g2
    generalize s1 = t
    intro g2
    exact fzs_same g2
  subst e2
  subst e3
  generalize hvs : own.map (·.2) = vs at w3 h6 ⊢
  unfold dcAll at w3
  obtain ⟨acc, se, w4, w5⟩ := RE.andThen_inv w3
  injection w5 with e4 e5
  subst e4
  obtain ⟨_, s4, w6, w7⟩ := bind_inv w4
  obtain ⟨hh, rfl⟩ := hideM_inv w6
  refine ⟨B, s, rs, s3, ds, xs, g1, g2, g3', F, en, fun J H1 F1 q1 e1 wd D hD => ?_⟩
  -- the invariant
  refine ⟨fun i m H => m = xs.length - i ∧ i ≤ xs.length ∧ ∃ F2 s2 a2, EnvR X.K γ (B.with D (.dict a2)) F2 H (wipe σ vs) s2 ∧ Sub F1 F2 ∧ a2.length ≤ i ∧ (∀ j ∈ vs, s2[j]? = some .emp) ∧
    dcLoop vs (dcTurn (p.cf n) tg ifs ek el) (xs.drop i) a2 s2 = .ok acc se, ⟨xs.length, by simp, Nat.zero_le _, ?_⟩, ?_⟩
  · have g : Grow F1 H1 F1 (upd H1 D (.dK [])) := Grow.own e1.fh hD
    have e2 := e1.grow g
    have r2 : RvR X.K B F1 (upd H1 D (.dK [])) σ s3 (.ref D) (.own (.dict [])) := ResR.rv e1 g ⟨D, rfl, hD, e1.fh.none hD, [], upd_same, .nil⟩
    have e3 := (e2.hold r2).hidden vs hh
    refine ⟨F1, _, [], e3, Sub.refl F1, Nat.le_refl _, fun j hj => ?_, by rw [List.drop_zero]; exact w7⟩
    have hj' := List.all_eq_true.mp hh j hj
    refine hide_get_in hj ?_
    cases hs : s3[j]? with
    | none => rw [hs] at hj'; cases hj'
    | some y => exact (List.getElem?_eq_some_iff.mp hs).1
  · rintro i m H ⟨rfl, hi, F2, s2, a2, e2, sub2, ha2, hemp, hloop⟩
    have s12 : Sub F1 H := sub2.trans e2.fh
    by_cases hlt : i < xs.length
    · right
      refine ⟨wd.go i H hlt s12, fun H' => i + 1 ≤ xs.length ∧ ∃ F3 s3 a3, EnvR X.K γ (B.with D (.dict a3)) F3 H' (wipe σ vs) s3 ∧ Sub F1 F3 ∧ a3.length ≤ i + 1 ∧ (∀ j ∈ vs, s3[j]? = some .emp) ∧ dcLoop vs (dcTurn (p.cf n) tg ifs ek el) (xs.drop (i + 1)) a3 s3 = .ok acc se, fun H' hn => ⟨xs.length - (i + 1), by omega, rfl, hn.1, hn.2⟩, fun x H' hy' => ?_⟩
      obtain ⟨F3, d, g, hd, rd⟩ := wd.yld i F2 H x H' hlt sub2 e2.fh hy'
      rw [drop_cons hd] at hloop
      obtain ⟨ro, t1, f1, v1⟩ := bind_inv hloop
      obtain ⟨a2', t1', fa, v1'⟩ := bind_inv v1
      obtain ⟨fa', ea⟩ := opt_inv fa
      subst ea
      obtain ⟨_, t2, f2, v2⟩ := bind_inv v1'
      obtain ⟨hh2, rfl⟩ := hideM_inv f2
      obtain ⟨_, t3, f3, v3⟩ := bind_inv f1
      obtain ⟨b, t4, f4, v4⟩ := bind_inv v3
      have e3 := e2.grow g
      refine ⟨_, F3, s2, d, t3, e3, rd.mono (kind_tup hy h2), f3, fun σ2 e4 l4 o4 => ?_⟩
      have hw : wipe σ2 vs = wipe σ vs := by
        have : wipe σ2 vs = wipe (wipe σ vs) vs := wipe_ext l4 fun j hj => o4 j fun hm => hj (by
          have := List.all_eq_true.mp h6 j hm
          simpa using this)
        rw [this, wipe_wipe]
      refine ⟨hw, _, t3, b, t4, f4, F3, e4, fun H5 F5 q5 e5 => ?_⟩
      have fin : ∀ {H6 : Hp} {F6 : Hp} {a6 : List (PV × PV)}, Sub F1 F6 → a6.length ≤ i + 1 → EnvR X.K γ (B.with D (.dict a6)) F6 H6 σ2 t1' → dcLoop vs (dcTurn (p.cf n) tg ifs ek el) (xs.drop (i + 1)) a6 (hide vs t1') = .ok acc se →
          i + 1 ≤ xs.length ∧ ∃ F3 s3 a3, EnvR X.K γ (B.with D (.dict a3)) F3 H6 (wipe σ vs) s3 ∧ Sub F1 F3 ∧ a3.length ≤ i + 1 ∧ (∀ j ∈ vs, s3[j]? = some .emp) ∧ dcLoop vs (dcTurn (p.cf n) tg ifs ek el) (xs.drop (i + 1)) a3 s3 = .ok acc se := by
        intro H6 F6 a6 q6 l6 e6 hl6
        refine ⟨hlt, F6, _, a6, ?_, q6, l6, fun j hj => ?_, hl6⟩
        · rw [← hw]; exact e6.hidden vs hh2
        · have hj' := List.all_eq_true.mp hh2 j hj
          refine hide_get_in hj ?_
          cases hs : t1'[j]? with
          | none => rw [hs] at hj'; cases hj'
          | some y => exact (List.getElem?_eq_some_iff.mp hs).1
      cases b with
      | false =>
        rw [if_neg Bool.false_ne_true] at v4
        obtain ⟨rfl, rfl⟩ := pure_inv v4
        dsimp only
        rw [if_neg Bool.false_ne_true]
        cases fa'
        exact fin (sub2.trans (g.ff.trans q5)) (by omega) e5 v2
      | true =>
        rw [if_pos rfl] at v4
        dsimp only
        rw [if_pos rfl]
        obtain ⟨r1, t5, f5, v5⟩ := bind_inv v4
        obtain ⟨dk, t6, f6, v6⟩ := bind_inv v5
        have et := fz_same f6
        subst et
        obtain ⟨r2, t7, f7, v7⟩ := bind_inv v6
        obtain ⟨dv, t8, f8, v8⟩ := bind_inv v7
        have et := fz_same f8
        subst et
        obtain ⟨rfl, rfl⟩ := pure_inv v8
        refine tU_good f5 e5 fun yk H6 F6 q6 e6 ryk => ?_
        obtain ⟨_, rdk⟩ := fz_ok ryk f6
        refine tU_good f7 e6 fun y H7 F7 q7 e7 ry => ?_
        obtain ⟨_, rdv⟩ := fz_ok ry f8
        obtain ⟨_, _, vsD, hDl, hDr⟩ := e7.tmp (D, .dict a2) List.mem_cons_self
        simp only [dcNext, dcPut] at fa'
        split at fa'
        case isFalse => cases fa'
        rename_i hz
        cases hk : keyQ dk with
        | none => rw [hk] at fa'; cases fa'
        | some kq =>
          rw [hk] at fa'
          injection fa' with fa'
          subst fa'
          have ek : yk = kV kq := keyQ_kV (F := F7) (H := H7) (Rp.top (e7.fh) (Rp.sub q7 rdk)) hk
          refine ⟨vsD, kq, ek, hDl, by rw [hDr.length, ← lim_eq]; exact hz, ?_⟩
          have hlen : (putD a2 dk kq dv).length ≤ a2.length + 1 := by
            unfold putD
            split <;> simp
          exact fin (sub2.trans (g.ff.trans (q5.trans (q6.trans q7)))) (by omega) (e7.tmpSetD (hDr.put hk rdv)) v2
    · left
      have ei : i = xs.length := by omega
      subst ei
      refine ⟨wd.stop H s12, ?_⟩
      rw [List.drop_length] at hloop
      obtain ⟨rfl, rfl⟩ := pure_inv hloop
      have e3 : EnvR X.K γ (B.with D (.dict acc)) F2 H σ (restore vs s3 se) := by
        refine e2.restored vs (wipe_length _ _) (fun j hj => wipe_get_out hj) (fun j hj => ⟨_, hemp j hj, rfl⟩) fun j hj => ?_
        have hj' := List.all_eq_true.mp hh j hj
        cases hs : s3[j]? with
        | none => rw [hs] at hj'; cases hj'
        | some y =>
          rw [hs] at hj'
          refine ⟨y, rfl, by simpa using hj', ?_⟩
          have w := e1.slot j y hs
          cases y with
          | emp => trivial
          | frz d => obtain ⟨v, w1, w2⟩ := w; exact ⟨v, w1, Rp.sub sub2 w2⟩
          | own d => cases hj'
          | io d => cases hj'
          | fn f => cases hj'
      obtain ⟨e4, r4⟩ := e3.unhold
      rw [e5] at e4 r4
      exact kk _ H F2 (q1.trans sub2) e4 r4
theorem se_dc {own : List (Str × Nat)} {ek el : E} {tg : Tg} {k : ItK} {its ifs : List E} (hek : SE p γ n S ek) (helt : SE p γ n S el) (hits : ∀ e ∈ its, SE p γ n S e) (hitss : SEs p γ n S its) (hifs : ∀ e ∈ ifs, ST p γ n S e) : SE p γ n S (.dc own ek el tg k its ifs) := fun X x c h => by
  obtain ⟨kx, vx, tg', it', ifs', scope, pos, wi, g, tt, tk, tv, rfl, h1, h2, h3, h4, h5, h6, h7, h8⟩ := dc_parts hek helt hits hitss hifs c h
  exact PE.imp (pe_dc (own := own) c.calm c.nd h1 h2 h3 h4 h5 h6 (notSet_folded h7)) h8
end
end Ev

/-! EvB: max(.., default=..), sorted(.., reverse=..); a display of one entry; ~. -/
namespace Ev
open PySem PySem.Spec L2
section
variable {X : Cx}
/-- max, min of ints, by default d -/
theorem call_minmaxD (mx : Bool) (hc : X.calm = true) (hu : X.A.units + 70 < cLine) : CallRK X (.builtin (if mx then "max" else "min")) [Str.ofString "default"] fun xs zs H Q =>
    ∃ F v z x d ns, xs = [v] ∧ zs = [z] ∧ Sub F H ∧ RpT X.K F H v x ∧ RpT X.K F H z d ∧ seq? x = some (ns.map PyData.int) ∧ flat d = true ∧
      Q (match ns with | [] => z | n :: ns => .int (if mx then ns.foldl max n else ns.foldl min n)) H := by
  intro pins s σ H xs zs us ws Q I r rz h
  obtain ⟨F, v, z, x, d, ns, rfl, rfl, sub, hx, hz, hs, hd, q⟩ := h
  obtain ⟨u, rfl, ru⟩ := vals1 r
  obtain ⟨w1, rfl, e0⟩ := vals1 rz
  have hh : X.A.handled = none := I.ok.hd hc
  have keep : ∀ {h' : Heap} {tk : Nat}, (∀ b o, s.heap.get? b = some o → h'.get? b = some o) → L2.Inv X pins σ H { s with heap := h', toks := tk } := fun {h' tk} hk => I.kept (t' := tk) hk
  have ends : ∀ (vs : List V) (its : List Value), Vals vs its → RpAll X.K F vs (ns.map .int) →
      (∃ as, ReadsAll s.heap its.toArray.toList (ns.map .int) as) ∧
      (ns.map PyData.int = [] → ∀ h' tk, (∀ b o, s.heap.get? b = some o → h'.get? b = some o) → EP X pins σ Q w1 { s with heap := h', toks := tk }) ∧
      (∀ (y : PyData) (ys : List PyData) (i : Nat) (v : Value) h' tk bs, ns.map PyData.int = y :: ys → its.toArray[i]? = some v → Reads h' v (if mx then PySem.W.maxD y ys else PySem.W.minD y ys) bs → (∀ b o, s.heap.get? b = some o → h'.get? b = some o) → EP X pins σ Q v { s with heap := h', toks := tk }) := by
    intro vs its rv ra
    rw [ra.ints] at rv
    have hi : PyProof.Rows.IntsAre its ns := Vals.ints rv
    refine ⟨⟨[], ?_⟩, fun e h' tk hk => ?_, fun y ys i v h' tk bs e hi' rd hk => ?_⟩
    · show ReadsAll s.heap its (ns.map .int) []
      clear q hs ra rv
      induction ns generalizing its with
      | nil => cases hi; exact .nil
      | cons n ns ih =>
        cases hi with
        | cons _ t b => exact .cons (as := []) (bs := []) (.int _ _) (ih _ b)
    · cases ns with
      | nil => exact ⟨_, H, keep hk, e0, q⟩
      | cons _ _ => cases e
    · cases ns with
      | nil => cases e
      | cons n ns =>
        rw [List.map_cons] at e
        injection e with e1 e2
        subst e1 e2
        cases mx with
        | true =>
          rw [if_pos rfl, PySem.W.maxD_ints] at rd
          obtain ⟨t, rfl⟩ := reads_int_inv rd
          exact ⟨.int _, H, keep hk, ⟨t, rfl⟩, q⟩
        | false =>
          rw [if_neg (by decide), PySem.W.minD_ints] at rd
          obtain ⟨t, rfl⟩ := reads_int_inv rd
          exact ⟨.int _, H, keep hk, ⟨t, rfl⟩, q⟩
  have hA := ints_alike ns
  have hdp : X.A.units + 1 + PyData.depthAll (ns.map PyData.int) < cLine := by rw [ints_depth0]; omega
  cases x with
  | list es =>
    cases hs
    obtain ⟨a, vs, rfl, ha, ra⟩ := hx.lst
    cases ru
    obtain ⟨_, its, n, rv, hl, e⟩ := lstR I ha
    obtain ⟨⟨as, f1⟩, f2, f3⟩ := ends vs its rv ra
    cases mx with
    | true => exact PySem.W.max_list_default hh ⟨_, e, rfl, n, rfl⟩ f1 hA hdp f2 f3
    | false => exact PySem.W.min_list_default hh ⟨_, e, rfl, n, rfl⟩ f1 hA hdp f2 f3
  | tuple es =>
    cases hs
    obtain ⟨a, vs, rfl, ha, ra⟩ := hx.tup
    cases ru
    obtain ⟨its, rv, ht, _⟩ := I.tuple (SqT.sub sub ha)
    obtain ⟨⟨as, f1⟩, f2, f3⟩ := ends vs its rv ra
    cases mx with
    | true => exact PySem.W.max_tuple_default hh ht f1 hA hdp f2 f3
    | false => exact PySem.W.min_tuple_default hh ht f1 hA hdp f2 f3
  | _ => cases hs
def bkVal : BK → String
  | .maxD => "max" | .minD => "min" | .sortR => "sorted"
theorem bk_facts (k : BK) : (bkName k).1 ∈ bltNames ∧ (bkName k).1 ≠ "__name__" ∧ ((bkName k).1 == ("__debug__" : Str)) = false ∧ bootBuiltins (bkName k).1 = some (.builtin (bkVal k)) := by
  cases k <;> decide +kernel
theorem rpT_flat {K : Frag} {F H : Hp} {v : V} {d : PV} (h : RpT K F H v d) (f : flat d = true) : Rp K F v d := by
  cases d <;> first | exact h | cases f
theorem bk_rule (k : BK) (hc : X.calm = true) (hu : X.A.units + 70 < cLine) : CallRK X (.builtin (bkVal k)) [(bkName k).2] fun xs zs H Q =>
    ∃ v z x d r, bkOp k x d = some r ∧ xs = [v] ∧ zs = [z] ∧ ∃ F, Sub F H ∧ RpT X.K F H v x ∧ RpT X.K F H z d ∧ Want X.K F H r Q := by
  have mm : ∀ (mx : Bool) (x d : PV) (r : Rv), (if flat d then (seq? x).bind fun xs => (ints? xs).map fun ns => (match ns with | [] => .frz d | n :: ns => .frz (.int (if mx then ns.foldl max n else ns.foldl min n)) : Rv) else none) = some r →
      ∃ ns, flat d = true ∧ seq? x = some (ns.map PyData.int) ∧ r = (match ns with | [] => .frz d | n :: ns => .frz (.int (if mx then ns.foldl max n else ns.foldl min n))) := by
    intro mx x d r h
    split at h
    · rename_i hf
      cases hs : seq? x with
      | none => rw [hs] at h; cases h
      | some xs =>
        rw [hs, Option.bind_some] at h
        cases hi : ints? xs with
        | none => rw [hi] at h; cases h
        | some ns =>
          rw [hi] at h
          injection h with h
          exact ⟨ns, hf, by rw [ints_some hi], h.symm⟩
    · cases h
  have go : ∀ (mx : Bool) {v z : V} {x d : PV} {r : Rv} {F H : Hp} {Q : VK} {ns : List Int}, flat d = true → seq? x = some (ns.map PyData.int) → r = (match ns with | [] => .frz d | n :: ns => .frz (.int (if mx then ns.foldl max n else ns.foldl min n))) → Sub F H → RpT X.K F H z d → Want X.K F H r Q →
      Q (match ns with | [] => z | n :: ns => .int (if mx then ns.foldl max n else ns.foldl min n)) H := by
    intro mx v z x d r F H Q ns hf hs hr sub hz w
    cases ns with
    | nil => subst hr; exact w.frz sub (rpT_flat hz hf)
    | cons n ns => subst hr; exact w.frz sub (.int _)
  cases k with
  | maxD =>
    intro pins s σ H xs zs us ws Q I r rz ⟨v, z, x, d, r0, ho, e1, e2, F, sub, hx, hz, w⟩
    obtain ⟨ns, hf, hs, hr⟩ := mm true x d r0 ho
    exact call_minmaxD true hc hu pins s σ H xs zs us ws Q I r rz ⟨F, v, z, x, d, ns, e1, e2, sub, hx, hz, hs, hf, go true (v := v) hf hs hr sub hz w⟩
  | minD =>
    intro pins s σ H xs zs us ws Q I r rz ⟨v, z, x, d, r0, ho, e1, e2, F, sub, hx, hz, w⟩
    obtain ⟨ns, hf, hs, hr⟩ := mm false x d r0 ho
    exact call_minmaxD false hc hu pins s σ H xs zs us ws Q I r rz ⟨F, v, z, x, d, ns, e1, e2, sub, hx, hz, hs, hf, go false (v := v) hf hs hr sub hz w⟩
  | sortR =>
    intro pins s σ H xs zs us ws Q I r rz ⟨v, z, x, d, r0, ho, e1, e2, F, sub, hx, hz, w⟩
    cases d with
    | bool b =>
      have ho : ((seq? x).bind fun ds => if sortable ds then some (Rv.own (.list (isort (W.dataLe b id) ds))) else none) = some r0 := ho
      cases hs : seq? x with
      | none => rw [hs] at ho; cases ho
      | some ds =>
        rw [hs, Option.bind_some] at ho
        split at ho
        · rename_i hk
          cases ho
          rw [isort_data] at w
          exact call_sortedR (b := b) hu hs hk pins s σ H xs zs us ws Q I r rz ⟨F, v, e1, by rw [e2, hz.bl], sub, hx, w⟩
        · cases ho
    | _ => cases ho
end
section
variable {p : Prg} {n : Nat} {S : Sx} {K : Frag} {γ : Gt} {c : Cf}
theorem se_bk {k : BK} {a d : E} (ha : SE p γ n S a) (hd : SE p γ n S d) : SE p γ n S (.bk k a d) := fun X x c h => by
  simp only [chk] at h
  split at h
  case h_2 => cases h
  simp only [Bool.and_eq_true, decide_eq_true_eq] at h
  obtain ⟨⟨⟨⟨⟨rfl, rfl⟩, h1⟩, h2⟩, h3⟩, h4⟩ := h
  obtain ⟨f1, f2, f3, f4⟩ := bk_facts k
  refine PE.imp (pe_callBK (ks := [(bkName k).2]) (bk_rule k c.calm (by have := c.u; omega)) (gloB_ok rfl h1) (c.blt _ f1) f4 (pa_cons (ha X _ c h2) pa_nil (star_cons h3)) (pk_cons (hd X _ c h4) pk_nil) f2 f3 (by rw [star_cons h3]; rfl) (star_plain (by rw [List.all_cons, h3]; rfl))) fun σ H Q q => ?_
  obtain ⟨B, s, r0, s', hv, F, en, kk⟩ := q
  obtain ⟨r1, s1, g1, w1⟩ := bind_inv hv
  obtain ⟨r2, s2, g2, w2⟩ := bind_inv w1
  obtain ⟨u, s3, g3, w3⟩ := bind_inv w2
  obtain ⟨v, s4, g4, w4⟩ := bind_inv w3
  obtain ⟨g5, e5⟩ := opt_inv w4
  refine tU_good g1 en fun x H1 F1 q1 e1 rx => tU_good g2 e1 fun y H2 F2 q2 e2 ry => ?_
  obtain ⟨e3, tx⟩ := opd_ok e2 (rx.sub q2) g3
  subst e3
  obtain ⟨e4, ty⟩ := opd_ok e2 ry g4
  have es : s' = _ := e5.trans e4
  subst es
  exact ⟨x, y, u, v, r0, g5, rfl, rfl, F2, e2.fh, tx, ty, want_of (q1.trans q2) e2 kk⟩
theorem se_inv {a : E} (ha : SE p γ n S a) : SE p γ n S (.inv a) := fun X x c h => by
  simp only [chk] at h
  split at h
  case h_2 => cases h
  refine PE.imp (pe_un un_inv (ha X _ c h)) fun σ H Q q => ?_
  obtain ⟨B, s, r0, s', hv, F, en, k⟩ := q
  obtain ⟨r1, s1, g1, hv1⟩ := bind_inv hv
  obtain ⟨u, s3, g3, hv2⟩ := bind_inv hv1
  refine tU_good g1 en fun x H' F' q1 e1 rx => ?_
  obtain ⟨rfl, tx⟩ := opd_ok e1 rx g3
  split at hv2
  · rename_i i
    obtain ⟨rfl, rfl⟩ := pure_inv hv2
    exact ⟨i, tx.int, k _ H' F' q1 e1 (.int _)⟩
  · cases hv2
theorem se_disp1 {ek el : E} (hek : SE p γ n S ek) (hel : SE p γ n S el) : SE p γ n S (.disp1 ek el) := fun X x c h => by
  simp only [chk] at h
  split at h
  case h_2 => cases h
  rw [Bool.and_eq_true] at h
  refine PE.imp (pe_disp (pps_cons (hek X _ c h.1) (hel X _ c h.2) pps_nil) (by rfl) (by rfl) (fun z => by cases z) (by show 1 ≤ 15; decide)) fun σ H Q q => ?_
  obtain ⟨B, s, r0, s', hv, F, en, kk⟩ := q
  obtain ⟨r1, s1, f5, v5⟩ := bind_inv hv
  obtain ⟨dk, s2, f6, v6⟩ := bind_inv v5
  have et := fz_same f6
  subst et
  obtain ⟨r2, s3, f7, v7⟩ := bind_inv v6
  obtain ⟨dv, s4, f8, v8⟩ := bind_inv v7
  have et := fz_same f8
  subst et
  obtain ⟨v9, rfl⟩ := opt_inv v8
  intro D hD
  have g : Grow F H F (upd H D (.dK [])) := Grow.own en.fh hD
  have e2 := en.grow g
  have rD : RvR X.K B F (upd H D (.dK [])) σ s (.ref D) (.own (.dict [])) := ResR.rv en g ⟨D, rfl, hD, en.fh.none hD, [], upd_same, .nil⟩
  have e3 := e2.hold rD
  refine tU_good f5 e3 fun yk H6 F6 q6 e6 ryk => ?_
  obtain ⟨_, rdk⟩ := fz_ok ryk f6
  refine tU_good f7 e6 fun y H7 F7 q7 e7 ry => ?_
  obtain ⟨_, rdv⟩ := fz_ok ry f8
  obtain ⟨_, _, vsD, hDl, hDr⟩ := e7.tmp (D, .dict []) List.mem_cons_self
  cases hDr
  cases hk : keyQ dk with
  | none => unfold dispOp at v9; rw [hk] at v9; cases v9
  | some kq =>
    unfold dispOp at v9
    rw [hk] at v9
    cases v9
    have ek : yk = kV kq := keyQ_kV (F := F7) (H := H7) (Rp.top (e7.fh) (Rp.sub q7 rdk)) hk
    refine ⟨hDl, [(kq, y)], by rw [ek]; rfl, by show 1 ≤ 15; decide, ?_⟩
    have e8 := e7.tmpSetD (RpKv.put (d := dv) (k := dk) .nil hk rdv)
    obtain ⟨e9, r9⟩ := e8.unhold
    exact kk _ _ F7 (q6.trans q7) e9 r9
end
end Ev

/-! EvC2: a list comprehension of two clauses. -/
namespace Ev
open PySem PySem.Spec L2
section
variable {p : Prg} {n : Nat} {S : Sx} {K : Frag} {γ : Gt} {c : Cf}
/-- One turn of the first clause. -/
def lc2Turn (c : Cf) (tg : Tg) (ifs : List E) (elt : E) (tg1 : Tg) (k1 : ItK) (its1 ifs1 : List E) : PV → List PV → M (List PV) := fun x acc => do
  bindT tg x
  let b ← evT c ifs
  if b then do
    let rs1 ← evs c its1; let vs1 ← fzs rs1; let ys ← M.opt (items k1 vs1)
    lc2In (tgSlots tg1) (lcTurn c tg1 ifs1 elt) ys acc
  else pure acc
theorem wipe_sub {σ : L2.St} {vs ws : List Nat} (h : ∀ i ∈ ws, i ∈ vs) : wipe (wipe σ ws) vs = wipe σ vs := wipe_ext (wipe_length _ _) fun i hi => wipe_get_out fun hm => hi (h i hm)
/-- a comprehension's parts -/
def Lc2P (p : Prg) (γ : Gt) (n : Nat) (X : Cx) (own : List (Str × Nat)) (elt : E) (tg : Tg) (k : ItK) (its ifs : List E) (tg1 : Tg) (k1 : ItK) (its1 ifs1 : List E) (x : Expr) : Prop :=
  ∃ (elt' tg' it' tg1' it1' : Expr) (ifs' ifs1' : List Expr) (scope : Scope) (pos : Pos) (wi wi1 : TI) (g g1 : TG) (tt tt1 : TT) (te : TE), x = .ListComp elt' [⟨tg', it', ifs', 0⟩, ⟨tg1', it1', ifs1', 0⟩] scope pos ∧ PI X tg' it' wi ∧ BlkOk X.N X.env.scope scope own ∧ (∀ i ∈ tgSlots tg1, i ∈ own.map (·.2)) ∧
    (∀ (s : Shared) (H : Hp) (C : Addr) (cl : List (Str × Addr)) (fp : List Addr), PG (X.blk s H scope (compEnvC scope cl C X.env) fp) tg' g) ∧
    (∀ (s : Shared) (H : Hp) (C : Addr) (cl : List (Str × Addr)) (fp : List Addr), PTs (X.blk s H scope (compEnvC scope cl C X.env) fp) ifs' tt) ∧
    (∀ (s : Shared) (H : Hp) (C : Addr) (cl : List (Str × Addr)) (fp : List Addr), PI (X.blk s H scope (compEnvC scope cl C X.env) fp) tg1' it1' wi1) ∧
    (∀ (s : Shared) (H : Hp) (C : Addr) (cl : List (Str × Addr)) (fp : List Addr), PG (X.blk s H scope (compEnvC scope cl C X.env) fp) tg1' g1) ∧
    (∀ (s : Shared) (H : Hp) (C : Addr) (cl : List (Str × Addr)) (fp : List Addr), PTs (X.blk s H scope (compEnvC scope cl C X.env) fp) ifs1' tt1) ∧
    (∀ (s : Shared) (H : Hp) (C : Addr) (cl : List (Str × Addr)) (fp : List Addr), PE (X.blk s H scope (compEnvC scope cl C X.env) fp) elt' te) ∧ notSet it' = true ∧ notSet it1' = true ∧
    ∀ σ H Q, tU X.K γ (p.cf n) (.lc2 own elt tg k its ifs tg1 k1 its1 ifs1) σ H Q → tLc2 wi g tt wi1 g1 tt1 te (own.map (·.2)) (tgSlots tg1) σ H Q
theorem hide_emp {vs : List Nat} {s : Env} (hh : (vs.all fun i => (s[i]?.map hideable).getD false) = true) : ∀ j ∈ vs, (hide vs s)[j]? = some .emp := fun j hj => by
  have hj' := List.all_eq_true.mp hh j hj
  refine hide_get_in hj ?_
  cases hs : s[j]? with
  | none => rw [hs] at hj'; cases hj'
  | some y => exact (List.getElem?_eq_some_iff.mp hs).1
theorem lc2_parts {own : List (Str × Nat)} {elt : E} {tg : Tg} {k : ItK} {its ifs : List E} {tg1 : Tg} {k1 : ItK} {its1 ifs1 : List E} (helt : SE p γ n S elt) (hits : ∀ e ∈ its, SE p γ n S e) (hitss : SEs p γ n S its) (hifs : ∀ e ∈ ifs, ST p γ n S e)
    (hits1 : ∀ e ∈ its1, SE p γ n S e) (hitss1 : SEs p γ n S its1) (hifs1 : ∀ e ∈ ifs1, ST p γ n S e) {X : Cx} {x : Expr} (c : XC p γ n S X) (h : chk S X.env.scope (.lc2 own elt tg k its ifs tg1 k1 its1 ifs1) x = true) : Lc2P p γ n X own elt tg k its ifs tg1 k1 its1 ifs1 x := by
  simp only [chk] at h
  split at h
  case h_2 => cases h
  rename_i elt' tg' it' ifs' a tg1' it1' ifs1' a1 scope pos
  simp only [Bool.and_eq_true, decide_eq_true_eq] at h
  obtain ⟨⟨⟨⟨⟨⟨⟨⟨⟨⟨⟨⟨⟨⟨⟨rfl, rfl⟩, h1⟩, h2⟩, h2'⟩, h3⟩, h4⟩, h5⟩, h4'⟩, h5'⟩, h6⟩, h6'⟩, h7⟩, h7'⟩, h8⟩, h8'⟩ := h
  split at h8
  case h_2 => cases h8
  rename_i ys hy
  split at h8'
  case h_2 => cases h8'
  rename_i ys1 hy1
  have wi := si_all (k := k) hits hitss c hy h8
  have cb : ∀ (s : Shared) (H : Hp) (C : Addr) (cl : List (Str × Addr)) (fp : List Addr), XC p γ n S (X.blk s H scope (compEnvC scope cl C X.env) fp) := fun s H C cl fp => c.blk s H scope _ fp rfl rfl
  refine ⟨elt', tg', it', tg1', it1', ifs', ifs1', scope, pos, tUI X.K γ (p.cf n) k its, tUI X.K γ (p.cf n) k1 its1, tUG X.K γ tg, tUG X.K γ tg1, tUTs X.K γ (p.cf n) ifs, tUTs X.K γ (p.cf n) ifs1, tU X.K γ (p.cf n) elt, rfl, wi, by rw [c.hN]; exact blkOk_by h1,
    (fun i hi => by have := List.all_eq_true.mp h6' i hi; simpa using this),
    (fun s H C cl fp => sg_tg tg (X := X.blk s H scope (compEnvC scope cl C X.env) fp) (cb s H C cl fp) (own := fun y => scope.names.lookup y == some .cell) ⟨fun x hx => hx⟩ h2),
    (fun s H C cl fp => pts_all (X := X.blk s H scope (compEnvC scope cl C X.env) fp) hifs (cb s H C cl fp) h4 h5),
    (fun s H C cl fp => si_all (X := X.blk s H scope (compEnvC scope cl C X.env) fp) (k := k1) hits1 hitss1 (cb s H C cl fp) hy1 h8'),
    (fun s H C cl fp => sg_tg tg1 (X := X.blk s H scope (compEnvC scope cl C X.env) fp) (cb s H C cl fp) (own := fun y => scope.names.lookup y == some .cell) ⟨fun x hx => hx⟩ h2'),
    (fun s H C cl fp => pts_all (X := X.blk s H scope (compEnvC scope cl C X.env) fp) hifs1 (cb s H C cl fp) h4' h5'),
    (fun s H C cl fp => helt _ elt' (cb s H C cl fp) h3), h7, h7', fun σ H Q q => ?_⟩
  have hsub : ∀ i ∈ tgSlots tg1, i ∈ own.map (·.2) := fun i hi => by have := List.all_eq_true.mp h6' i hi; simpa using this
  obtain ⟨B, s, r0, s', hv, F, en, kk⟩ := q
  obtain ⟨rs, s1, g1, w1⟩ := bind_inv hv
  obtain ⟨ds, s2, g2, w2⟩ := bind_inv w1
  obtain ⟨xs, s3, g3, w3⟩ := bind_inv w2
  obtain ⟨g3', e3⟩ := opt_inv g3
  have e2 : s2 = s1 := by
    clear w1 w2 w3 g3 e3
    revert g2
    generalize s1 = t
    intro g2
    exact fzs_same g2
  subst e2
  subst e3
  generalize hvs : own.map (·.2) = vs at w3 h6 hsub ⊢
  generalize hws : tgSlots tg1 = ws at w3 hsub ⊢
  have w3 : lc2All vs (lc2Turn (p.cf n) tg ifs elt tg1 k1 its1 ifs1) xs s3 = .ok r0 s' := by
    unfold lc2Turn
    rw [hws]
    exact w3
  unfold lc2All at w3
  obtain ⟨acc, se, w4, w5⟩ := RE.andThen_inv w3
  injection w5 with e4 e5
  subst e4
  obtain ⟨_, s4, w6, w7⟩ := bind_inv w4
  obtain ⟨hh, rfl⟩ := hideM_inv w6
  refine ⟨B, s, rs, s3, ds, xs, g1, g2, g3', F, en, fun J H1 F1 q1 e1 wd D hD => ?_⟩
  -- the invariant
  refine ⟨fun i m H => m = xs.length - i ∧ i ≤ xs.length ∧ ∃ F2 s2 a2, EnvR X.K γ (B.with D (.list a2)) F2 H (wipe σ vs) s2 ∧ Sub F1 F2 ∧ (∀ j ∈ vs, s2[j]? = some .emp) ∧
    lc2Loop vs (lc2Turn (p.cf n) tg ifs elt tg1 k1 its1 ifs1) (xs.drop i) a2 s2 = .ok acc se, ⟨xs.length, by simp, Nat.zero_le _, ?_⟩, ?_⟩
  · have g : Grow F1 H1 F1 (upd H1 D (.lst [])) := Grow.own e1.fh hD
    have e2 := e1.grow g
    have r2 : RvR X.K B F1 (upd H1 D (.lst [])) σ s3 (.ref D) (.own (.list [])) := ResR.rv e1 g ⟨D, rfl, hD, e1.fh.none hD, [], upd_same, .nil⟩
    have e3 := (e2.hold r2).hidden vs hh
    exact ⟨F1, _, [], e3, Sub.refl F1, hide_emp hh, by rw [List.drop_zero]; exact w7⟩
  · rintro i m H ⟨rfl, hi, F2, s2, a2, e2, sub2, hemp, hloop⟩
    have s12 : Sub F1 H := sub2.trans e2.fh
    by_cases hlt : i < xs.length
    · right
      refine ⟨wd.go i H hlt s12, fun H' => i + 1 ≤ xs.length ∧ ∃ F3 s3 a3, EnvR X.K γ (B.with D (.list a3)) F3 H' (wipe σ vs) s3 ∧ Sub F1 F3 ∧ (∀ j ∈ vs, s3[j]? = some .emp) ∧ lc2Loop vs (lc2Turn (p.cf n) tg ifs elt tg1 k1 its1 ifs1) (xs.drop (i + 1)) a3 s3 = .ok acc se, fun H' hn => ⟨xs.length - (i + 1), by omega, rfl, hn.1, hn.2⟩, fun x H' hy' => ?_⟩
      obtain ⟨F3, d, g, hd, rd⟩ := wd.yld i F2 H x H' hlt sub2 e2.fh hy'
      rw [drop_cons hd] at hloop
      obtain ⟨ro, t1, f1, v1⟩ := bind_inv hloop
      obtain ⟨_, t2, f2, v2⟩ := bind_inv v1
      obtain ⟨hh2, rfl⟩ := hideM_inv f2
      obtain ⟨_, t3, f3, v3⟩ := bind_inv f1
      obtain ⟨b, t4, f4, v4⟩ := bind_inv v3
      have e3 := e2.grow g
      refine ⟨_, F3, s2, d, t3, e3, rd.mono (kind_tup hy h2), f3, fun σ2 e4 l4 o4 => ?_⟩
      have hw : wipe σ2 vs = wipe σ vs := by
        have : wipe σ2 vs = wipe (wipe σ vs) vs := wipe_ext l4 fun j hj => o4 j fun hm => hj (by
          have := List.all_eq_true.mp h6 j hm
          simpa using this)
        rw [this, wipe_wipe]
      refine ⟨hw, _, t3, b, t4, f4, F3, e4, fun H5 F5 q5 e5 => ?_⟩
      -- the turn's end, from any slots that are alike outside
      have fin : ∀ {H6 : Hp} {F6 : Hp} {σ6 : L2.St}, Sub F1 F6 → wipe σ6 vs = wipe σ vs → EnvR X.K γ (B.with D (.list ro)) F6 H6 σ6 t1 →
          i + 1 ≤ xs.length ∧ ∃ F3 s3 a3, EnvR X.K γ (B.with D (.list a3)) F3 H6 (wipe σ vs) s3 ∧ Sub F1 F3 ∧ (∀ j ∈ vs, s3[j]? = some .emp) ∧ lc2Loop vs (lc2Turn (p.cf n) tg ifs elt tg1 k1 its1 ifs1) (xs.drop (i + 1)) a3 s3 = .ok acc se := by
        intro H6 F6 σ6 q6 w6 e6
        exact ⟨hlt, F6, _, ro, by rw [← w6]; exact e6.hidden vs hh2, q6, hide_emp hh2, v2⟩
      cases b with
      | false =>
        rw [if_neg Bool.false_ne_true] at v4
        obtain ⟨rfl, rfl⟩ := pure_inv v4
        dsimp only
        rw [if_neg Bool.false_ne_true]
        exact fin (sub2.trans (g.ff.trans q5)) hw e5
      | true =>
        rw [if_pos rfl] at v4
        dsimp only
        rw [if_pos rfl]
        obtain ⟨rs1, t5, f5, v5⟩ := bind_inv v4
        obtain ⟨ds1, t6, f6, v6⟩ := bind_inv v5
        obtain ⟨ys, t7, f7, v7⟩ := bind_inv v6
        obtain ⟨f7', et⟩ := opt_inv f7
        have e6 : t6 = t5 := by
          clear v5 v6 v7 f7 et
          revert f6
          generalize t5 = t
          intro f6
          exact fzs_same f6
        subst e6
        subst et
        rw [hws] at v7
        unfold lc2In at v7
        split at v7
        case isFalse => cases v7
        rename_i hsz
        obtain ⟨_, t8, f8, v8⟩ := bind_inv v7
        obtain ⟨hh8, rfl⟩ := hideM_inv f8
        refine ⟨_, t4, rs1, t7, ds1, ys, f5, f6, f7', F5, e5, fun J1 H7 F7 q7 e7 wd1 => ?_⟩
        -- the inner invariant
        refine ⟨fun j k H => k = ys.length - j ∧ j ≤ ys.length ∧ ∃ F2 s2 b2, EnvR X.K γ (B.with D (.list b2)) F2 H (wipe σ2 ws) s2 ∧ Sub F7 F2 ∧ b2.length ≤ a2.length + j ∧
          lcLoop ws (lcTurn (p.cf n) tg1 ifs1 elt) (ys.drop j) b2 s2 = .ok ro t1, ⟨ys.length, by simp, Nat.zero_le _, F7, _, a2, e7.hidden ws hh8, Sub.refl F7, Nat.le_refl _, by rw [List.drop_zero]; exact v8⟩, ?_⟩
        rintro j kk2 H ⟨rfl, hj, F8, u2, b2, e8, sub8, hb2, hloop1⟩
        have s78 : Sub F7 H := sub8.trans e8.fh
        by_cases hlt1 : j < ys.length
        · right
          refine ⟨wd1.go j H hlt1 s78, fun H' => j + 1 ≤ ys.length ∧ ∃ F3 s3 b3, EnvR X.K γ (B.with D (.list b3)) F3 H' (wipe σ2 ws) s3 ∧ Sub F7 F3 ∧ b3.length ≤ a2.length + (j + 1) ∧ lcLoop ws (lcTurn (p.cf n) tg1 ifs1 elt) (ys.drop (j + 1)) b3 s3 = .ok ro t1, fun H' hn => ⟨ys.length - (j + 1), by omega, rfl, hn.1, hn.2⟩, fun x1 H9 hy9 => ?_⟩
          obtain ⟨F9, d9, g9, hd9, rd9⟩ := wd1.yld j F8 H x1 H9 hlt1 sub8 e8.fh hy9
          rw [drop_cons hd9] at hloop1
          obtain ⟨ro9, y1, i1, z1⟩ := bind_inv hloop1
          obtain ⟨_, y2, i2, z2⟩ := bind_inv z1
          obtain ⟨hh9, rfl⟩ := hideM_inv i2
          obtain ⟨_, y3, i3, z3⟩ := bind_inv i1
          obtain ⟨b9, y4, i4, z4⟩ := bind_inv z3
          have e9 := e8.grow g9
          refine ⟨_, F9, u2, d9, y3, e9, rd9.mono (kind_tup hy1 h2'), i3, fun σ9 e10 l10 o10 => ?_⟩
          have hw9 : wipe σ9 ws = wipe σ2 ws := by
            have : wipe σ9 ws = wipe (wipe σ2 ws) ws := wipe_ext l10 fun j hj => o10 j fun hm => hj (by rw [← hws]; exact hm)
            rw [this, wipe_wipe]
          refine ⟨hw9, _, y3, b9, y4, i4, F9, e10, fun H11 F11 q11 e11 => ?_⟩
          have fin1 : ∀ {H6 : Hp} {F6 : Hp} {a6 : List PV}, Sub F7 F6 → a6.length ≤ a2.length + (j + 1) → EnvR X.K γ (B.with D (.list a6)) F6 H6 σ9 y1 → lcLoop ws (lcTurn (p.cf n) tg1 ifs1 elt) (ys.drop (j + 1)) a6 (hide ws y1) = .ok ro t1 →
              j + 1 ≤ ys.length ∧ ∃ F3 s3 b3, EnvR X.K γ (B.with D (.list b3)) F3 H6 (wipe σ2 ws) s3 ∧ Sub F7 F3 ∧ b3.length ≤ a2.length + (j + 1) ∧ lcLoop ws (lcTurn (p.cf n) tg1 ifs1 elt) (ys.drop (j + 1)) b3 s3 = .ok ro t1 := by
            intro H6 F6 a6 q6 l6 e6 hl6
            exact ⟨hlt1, F6, _, a6, by rw [← hw9]; exact e6.hidden ws hh9, q6, l6, hl6⟩
          cases b9 with
          | false =>
            rw [if_neg Bool.false_ne_true] at z4
            obtain ⟨rfl, rfl⟩ := pure_inv z4
            dsimp only
            rw [if_neg Bool.false_ne_true]
            exact fin1 (sub8.trans (g9.ff.trans q11)) (by omega) e11 z2
          | true =>
            rw [if_pos rfl] at z4
            dsimp only
            rw [if_pos rfl]
            obtain ⟨r1, y5, i5, z5⟩ := bind_inv z4
            obtain ⟨dv, y6, i6, z6⟩ := bind_inv z5
            obtain ⟨rfl, rfl⟩ := pure_inv z6
            have et := fz_same i6
            subst et
            refine tU_good i5 e11 fun y H6 F6 q6 e6 ry => ?_
            obtain ⟨_, rdv⟩ := fz_ok ry i6
            obtain ⟨_, _, vsD, hDl, hDr⟩ := e6.tmp (D, .list b2) List.mem_cons_self
            refine ⟨vsD, hDl, ?_, ?_⟩
            · rw [hDr.length]
              have hl : lim ≤ sizeLine := by decide
              omega
            · exact fin1 (sub8.trans (g9.ff.trans (q11.trans q6))) (by simp; omega) (e6.tmpSet (hDr.append (.cons rdv .nil))) z2
        · left
          have ei : j = ys.length := by omega
          subst ei
          refine ⟨wd1.stop H s78, ?_⟩
          rw [List.drop_length] at hloop1
          obtain ⟨rfl, rfl⟩ := pure_inv hloop1
          exact fin (sub2.trans (g.ff.trans (q5.trans (q7.trans sub8)))) (by rw [wipe_sub hsub, hw]) e8
    · left
      have ei : i = xs.length := by omega
      subst ei
      refine ⟨wd.stop H s12, ?_⟩
      rw [List.drop_length] at hloop
      obtain ⟨rfl, rfl⟩ := pure_inv hloop
      have e3 : EnvR X.K γ (B.with D (.list acc)) F2 H σ (restore vs s3 se) := by
        refine e2.restored vs (wipe_length _ _) (fun j hj => wipe_get_out hj) (fun j hj => ⟨_, hemp j hj, rfl⟩) fun j hj => ?_
        have hj' := List.all_eq_true.mp hh j hj
        cases hs : s3[j]? with
        | none => rw [hs] at hj'; cases hj'
        | some y =>
          rw [hs] at hj'
          refine ⟨y, rfl, by simpa using hj', ?_⟩
          have w := e1.slot j y hs
          cases y with
          | emp => trivial
          | frz d => obtain ⟨v, w1, w2⟩ := w; exact ⟨v, w1, Rp.sub sub2 w2⟩
          | own d => cases hj'
          | io d => cases hj'
          | fn f => cases hj'
      obtain ⟨e4, r4⟩ := e3.unhold
      rw [e5] at e4 r4
      exact kk _ H F2 (q1.trans sub2) e4 r4
theorem se_lc2 {own : List (Str × Nat)} {elt : E} {tg : Tg} {k : ItK} {its ifs : List E} {tg1 : Tg} {k1 : ItK} {its1 ifs1 : List E} (helt : SE p γ n S elt) (hits : ∀ e ∈ its, SE p γ n S e) (hitss : SEs p γ n S its) (hifs : ∀ e ∈ ifs, ST p γ n S e)
    (hits1 : ∀ e ∈ its1, SE p γ n S e) (hitss1 : SEs p γ n S its1) (hifs1 : ∀ e ∈ ifs1, ST p γ n S e) : SE p γ n S (.lc2 own elt tg k its ifs tg1 k1 its1 ifs1) := fun X x c h => by
  obtain ⟨elt', tg', it', tg1', it1', ifs', ifs1', scope, pos, wi, wi1, g, g1, tt, tt1, te, rfl, h1, h2, hv, h3, h4, h5, h6, h7, h8, h9, h10, h11⟩ := lc2_parts helt hits hitss hifs hits1 hitss1 hifs1 c h
  exact PE.imp (pe_lc2 (own := own) c.calm c.nd h1 h2 hv h3 h4 h5 h6 h7 h8 (notSet_folded h9) fun env => notSet_folded h10) h11
end
end Ev

/-! EvP: sorted(.., key=lambda v: ..). -/
namespace Ev
open PySem PySem.Spec PyProof.Rows L2
/-! ### a lambda of one parameter -/
structure LamS1 (sc scope : Scope) (z : Str) : Prop where
  kind : scope.kind = .function
  co : scope.isCoroutine = false
  gen : scope.isGenerator = false
  par : scope.names.lookup z = some .local
  own : ∀ y ∈ scope.names, (y.2 = .local → y.1 = z) ∧ y.2 ≠ .cell
  free : ∀ y ∈ scope.names, y.2 = .free → sc.names.lookup y.1 = some .cell ∨ sc.names.lookup y.1 = some .free
theorem lamS1_by {sc scope : Scope} {z : Str} (h : lamSB1 sc scope z = true) : LamS1 sc scope z := by
  unfold lamSB1 at h
  simp only [Bool.and_eq_true, Bool.or_eq_true, Bool.not_eq_true', decide_eq_true_eq, decide_eq_false_iff_not, List.all_eq_true] at h
  obtain ⟨⟨⟨⟨h1, h2⟩, h3⟩, h5⟩, h4⟩ := h
  refine ⟨h1, h2, h3, h5, fun y hy => ⟨fun e => ?_, (h4 y hy).1.2⟩, fun y hy e => ?_⟩
  · rcases (h4 y hy).1.1 with q | q
    · exact absurd e q
    · exact q
  · rcases (h4 y hy).2 with (z | z) | z
    · exact absurd e z
    · exact .inl z
    · exact .inr z
theorem lam_bind1 {q z : Str} {ps : Arguments} {body : Expr} {scope : Scope} {cl : List (Str × Addr)} {pm cv ctv u : Value} (h : lamPs1 z ps = true) : bindArgs (PySem.W.kla_fn "<lambda>" q ps body scope cl pm cv ctv) ⟨[u], []⟩ = pure [(z, u)] := by
  unfold lamPs1 at h
  simp only [Bool.and_eq_true, List.isEmpty_iff, Option.isNone_iff_eq_none] at h
  obtain ⟨⟨⟨⟨⟨⟨h1, h2⟩, h3⟩, h4⟩, h5⟩, h6⟩, h7⟩ := h
  obtain ⟨p1, p2, p3, p4, p5, p6, p7⟩ := ps
  simp only at h1 h2 h3 h4 h5 h6 h7
  split at h2
  case h_2 => cases h2
  rename_i a
  have h2 := of_decide_eq_true h2
  obtain ⟨a1, a2, a3⟩ := a
  simp only at h2
  subst h1 h2 h3 h4 h5 h6 h7
  have hs : seqItems? Value.none = pure none := rfl
  unfold bindArgs
  simp [hs, List.lookup]
theorem lam_dflt1 {z : Str} {ps : Arguments} {env : PySem.Env} (h : lamPs1 z ps = true) : defaultsOf ps env = ([], []) := by
  unfold lamPs1 at h
  simp only [Bool.and_eq_true, List.isEmpty_iff, Option.isNone_iff_eq_none] at h
  obtain ⟨⟨⟨⟨⟨⟨h1, h2⟩, h3⟩, h4⟩, h5⟩, h6⟩, h7⟩ := h
  obtain ⟨p1, p2, p3, p4, p5, p6, p7⟩ := ps
  simp only at h1 h2 h3 h4 h5 h6 h7
  subst h1 h3 h4 h5 h6 h7
  rfl
section
variable {X : Cx} {pins : List (Addr × Obj)} {σ : L2.St} {H : Hp} {s : Shared}
theorem LamS1.has {scope : Scope} {z : Str} (L : LamS1 X.env.scope scope z) (ok : X.Ok) : ∀ y ∈ scope.names, y.2 = .free → ∃ c, X.env.cells.lookup y.1 = some c := fun y hy e => by
  rcases L.free y hy e with k | k
  · exact ok.has _ (.inl k)
  · exact ok.has _ (.inr k)
theorem lam_start1 {A : Around} {E : XK} {scope : Scope} {f c' : Addr} {h₁ : Heap} {tk i : Nat} {z : Str} {v : V} {u : Value} (I : Inv X pins σ H s) (L : LamS1 X.env.scope scope z) (nd : X.N.Nodup) (hi : X.N[i]? = some z) (rv : RelV v u)
    (e0 : Env0 X.prog X.w X.K X.mg X.base A X.stack s H) (hd : A.handled = none)
    (hns : h₁.Ns s.heap.objs.size fun y => [(z, u)].reverse.lookup y) (kp : ∀ b o, s.heap.get? b = some o → h₁.get? b = some o) :
    Inv (LamX.lamCx X A X.stack s H E scope f c') [] (σ.set i (some v)) H { s with heap := h₁, toks := tk } := by
  have hfree := L.has I.ok
  have cm : ∀ {y c}, (cloFrom X.env.cells scope.names []).lookup y = some c → X.env.cells.lookup y = some c := fun {y c} e => by
    rcases cloFrom_mem (PySem.mem_of_lookup e) with hm | ⟨h1, h2⟩
    · cases hm
    · obtain ⟨c1, hc⟩ := hfree _ h1 rfl
      have hc : X.env.cells.lookup y = some c1 := hc
      have e2 : c = c1 := by
        rw [h2, hc] <;> rfl
      rw [e2]
      exact hc
  have look : ∀ {y}, scope.names.lookup y = some .free → ∃ c, (cloFrom X.env.cells scope.names []).lookup y = some c := fun {y} hl => by
    have hy : (y, NameKind.free) ∈ scope.names := PySem.mem_of_lookup hl
    exact mem_lookup (cloFrom_has (cells := X.env.cells) (acc := []) hy)
  have cellK : ∀ {c : Addr} {v : Option Value}, s.heap.IsCell c v → h₁.IsCell c v := fun {c v} ⟨o, ho, hd⟩ => ⟨_, kp _ _ ho, hd⟩
  have noA : ∀ b : Addr, b ∉ (LamX.lamCx X A X.stack s H E scope f c').ex := fun b z => absurd (show b ∈ ([] : List Addr) from z) (by simp)
  refine ⟨⟨e0.mod, L.kind, rfl, rfl, Nat.le_refl _, fun y z c e1 e2 => I.ok.inj y z c (cm e1) (cm e2), fun y hy => ?_, fun y c z _ => ?_, fun _ => hd, Around.frames_deeper e0.frames, .inr ⟨rfl, rfl⟩, fun b z => absurd z (noA b), e0.bs, e0.bsz, fun b _ _ => noA b,
      fun b z => absurd z (noA b), e0.funs, e0.frf⟩,
    rfl, e0.bare, Un.kept kp, ⟨_, hns, fun j y w e1 e2 e3 => ?_⟩, fun y c e => ?_, e0.hok.fresh (Nat.le_refl _), fun y c e => ?_, fun q hq => absurd (show q ∈ ([] : List (Addr × Obj)) ++ [] from hq) (by simp), e0.hok.kept kp, by rw [List.length_set]; exact I.len⟩
  · have hy : scope.names.lookup y = some .cell ∨ scope.names.lookup y = some .free := hy
    rcases hy with hy | hy
    · exact absurd rfl (L.own _ (PySem.mem_of_lookup hy)).2
    · exact look hy
  · have z : false = true := z
    cases z
  · have e3 : Vis scope y := e3
    have e1 : X.N[j]? = some y := e1
    rcases e3 with k | k | k
    · have hz : y = z := (L.own _ (PySem.mem_of_lookup k)).1 rfl
      subst hz
      have hj : j = i := nodup_ix nd e1 hi
      subst hj
      have hl : j < σ.length := by rw [I.len]; exact (List.getElem?_eq_some_iff.mp hi).1
      rw [List.getElem?_set_self hl] at e2
      cases e2
      refine ⟨u, rv, .inl ⟨k, ?_⟩⟩
      simp [List.lookup]
    · exact absurd rfl (L.own _ (PySem.mem_of_lookup k)).2
    · have hj : i ≠ j := fun q => by
        subst q
        rw [hi] at e1
        cases e1
        rw [L.par] at k
        cases k
      rw [List.getElem?_set_ne hj] at e2
      obtain ⟨m, hn, hl⟩ := I.loc
      have hvis : Vis X.env.scope y := (L.free _ (PySem.mem_of_lookup k) rfl).elim (fun k => .inr (.inl k)) (fun k => .inr (.inr k))
      obtain ⟨w', r, q⟩ := hl j y w e1 e2 hvis
      obtain ⟨c2, h2⟩ := look k
      refine ⟨w', r, .inr ⟨.inr k, c2, h2, ?_⟩⟩
      have c1 := cm h2
      rcases q with ⟨k', _⟩ | ⟨_, c3, e', z⟩
      · have k' : X.env.scope.names.lookup y = some .local := k'
        rcases L.free _ (PySem.mem_of_lookup k) rfl with k2 | k2 <;> rw [show X.env.scope.names.lookup y = _ from k2] at k' <;> cases k'
      · rw [c1] at e'
        cases e'
        exact cellK z
  · obtain ⟨w', z⟩ := I.cell y c (cm e)
    exact ⟨w', cellK z⟩
  · exact I.freeC y c (cm e)
/-- a lambda of one parameter is called -/
theorem lam_call1 {A : Around} {f c' : Addr} {pm ctv : Value} {params : Arguments} {body : Expr} {scope : Scope} {k i : Nat} {z q : Str} {v : V} {u : Value} {tb : TE} {Q : VK}
    (I : Inv X pins σ H s) (L : LamS1 X.env.scope scope z) (nd : X.N.Nodup) (hi : X.N[i]? = some z) (rv : RelV v u)
    (hf : s.heap.get? f = some (PySem.W.kla_obj "<lambda>" (X.env.qual ++ "<lambda>") params body scope (cloFrom X.env.cells scope.names []) pm c' ctv))
    (hc : ∃ (oc : Obj) (vs : Array Value) (t : Tok), s.heap.get? c' = some oc ∧ oc.data = .fields vs ∧ vs[1]? = some (.str (X.env.qual ++ "<lambda>") t))
    (hbind : bindArgs (PySem.W.kla_fn "<lambda>" (X.env.qual ++ "<lambda>") params body scope (cloFrom X.env.cells scope.names []) pm (.ref c') ctv) ⟨[u], []⟩ = pure [(z, u)])
    (hr : Room (k + 1) A) (e0 : Env0 X.prog X.w X.K X.mg X.base A X.stack s H)
    (hbody : Room k (A.deeper (LamX.lamEnv X scope s.heap.objs.size f c')) → PE (LamX.lamCx X A X.stack s H (fun _ _ _ => False) scope f c') body tb) (h : tb (σ.set i (some v)) H Q) :
    wpAny (model X.prog X.w) A (call (.ref f) [u]) (EP X pins σ Q) (fun _ _ => False) s := by
  obtain ⟨oc, vs, t, hoc, hdc, hvc⟩ := hc
  have rc : codeAny (model X.prog X.w) A (.call (.ref f) ⟨[u], []⟩) (CR (L2.CX X.prog X.w) X.stack X.prog X.w H s Q (fun _ _ _ => False)) s := by
    refine PySem.W.kla_callFunE hr.depth hf rfl L.co L.gen rfl ⟨c', oc, vs, t, rfl, hoc, hdc, hvc⟩ ?_
    rw [hbind]
    refine wpAny_pure (wpAny_newFunctionEnv (fun y hy => (L.own y hy).2) (fun y hy => ?_) (fun h₁ hns hsb => ⟨I.nolimit.fresh _ hsb, ?_⟩) L.kind)
    · have e : y = (z, u) := by simpa using hy
      subst e
      exact L.par
    · show codeAny _ _ (.expr body (LamX.lamEnv X scope s.heap.objs.size f c')) _ _
      have kp : ∀ b o, s.heap.get? b = some o → h₁.get? b = some o := fun b o e => hsb.extBut b o (Nat.ne_of_lt (Heap.lt_size e)) (Heap.get?_push_of_some _ e)
      have J : Inv (LamX.lamCx X A X.stack s H (fun _ _ _ => False) scope f c') [] (σ.set i (some v)) H { s with heap := h₁, toks := s.toks + [(z, u)].length } :=
        lam_start1 I L nd hi rv e0 hr.hd hns kp
      refine PySem.W.kla_codeExpr (wpAny_mono ((hbody (hr.deeper _)).run [] _ _ H Q J h) (fun v s' hq => ?_) fun e s' hq => hq)
      obtain ⟨w', H', J', rv, q⟩ := hq
      exact ⟨w', H', J'.os, J'.bare, J'.base, J'.hok, rv, q⟩
  refine wpAny_call (codeAny_mono rc fun r s' hq => ?_)
  cases r with
  | error e =>
    obtain ⟨_, _, _, _, _, _, _, _, _, _, _, _, z⟩ := hq
    exact z.elim
  | ok fl =>
    cases fl with
    | ret u => exact I.after hq
    | next => exact False.elim hq
    | brk => exact False.elim hq
    | cont => exact False.elim hq
/-- what is known of the sort's own list -/
structure OwnAt (X : Cx) (pins : List (Addr × Obj)) (a : Addr) : Prop where
  s0 : X.s_0.heap.objs.size ≤ a
  loc : a ≠ X.env.locals
  cell : ∀ x c, X.env.cells.lookup x = some c → c ≠ a
  pin : ∀ p ∈ X.pn ++ pins, p.1 ≠ a
theorem OwnAt.of {a : Addr} (I : Inv X pins σ H s) (h : s.heap.objs.size ≤ a) : OwnAt X pins a :=
  ⟨Nat.le_trans I.sz h, fun e => by have := I.lt; rw [← e] at this; exact absurd (Nat.lt_of_lt_of_le this h) (Nat.lt_irrefl _),
    fun x c e z => by obtain ⟨v, o, ho, _⟩ := I.cell x c e; rw [z] at ho; exact absurd (Nat.lt_of_lt_of_le (Heap.lt_size ho) h) (Nat.lt_irrefl _),
    fun p hp z => by obtain ⟨ho, _⟩ := I.pin p hp; rw [z] at ho; exact absurd (Nat.lt_of_lt_of_le (Heap.lt_size ho) h) (Nat.lt_irrefl _)⟩
theorem OwnAt.fr {a : Addr} (o : OwnAt X pins a) (I : Inv X pins σ H s) : a ∉ X.fs := fun hb => by
  obtain ⟨_, ob, ho, _⟩ := I.ok.funs.mem hb
  exact absurd (Nat.lt_of_lt_of_le (Heap.lt_size ho) o.s0) (Nat.lt_irrefl _)
/-- pinned while others run -/
theorem OwnAt.pinned {a : Addr} {ob : Obj} (o : OwnAt X pins a) (I : Inv X pins σ H s) (hg : s.heap.get? a = some ob) (hn : H a = none) (hd : ∀ v, ob.data ≠ .cell v) : Inv X (pins ++ [(a, ob)]) σ H s :=
  I.pins_of fun p hp => (List.mem_append.mp hp).elim (fun z => I.pin p (List.mem_append_right _ z)) fun z => by
    have e : p = (a, ob) := by simpa using z
    subst e
    exact ⟨hg, hn, o.loc, o.fr I, hd⟩
/-- two untracked objects of our own have changed; one is tracked from now on -/
theorem inv_two {a c : Addr} {o : HO} {h' : Heap} {t' : Nat} (I : Inv X pins σ H s) (k : Keeps2 a c s.heap h') (na : H a = none) (nc : H c = none) (oa : OwnAt X pins a) (oc : OwnAt X pins c) (new : ObjOk X.prog X.w (upd H a o) h' a o) :
    Inv X pins σ (upd H a o) { s with heap := h', toks := t' } := by
  have ne : ∀ b u, H b = some u → b ≠ a ∧ b ≠ c := fun b u e => ⟨ne_of_none e na, ne_of_none e nc⟩
  have st : ∀ b u, H b = some u → upd H a o b = some u := fun b u e => by rw [upd_ne (ne b u e).1]; exact e
  have nch : ∀ b, b ∉ [a, c] → b ≠ a ∧ b ≠ c := fun b hb => by simpa using hb
  refine I.step (g' := s.gens) (d' := s.drawn) (ch := [a, c]) (fun b hb => ?_) (fun b ob _ _ hc e _ => k b ob (nch b hc).1 (nch b hc).2 e) (fun b ob _ _ hc e _ => ⟨ob.slots, k b ob (nch b hc).1 (nch b hc).2 e⟩) (fun b ob hc _ n => by rw [upd_ne (nch b hc).1]; exact n)
    (fun b ob hc e => ⟨ob, k b ob (nch b hc).1 (nch b hc).2 e⟩) (fun b xs e => st b _ e) (fun b _ _ e => st b _ e) (fun b ps e => ⟨#[], by rw [st b _ e]; simp⟩) (fun m hm => ?_) (fun b u e => ?_) I.bare
  · have hb : b = a ∨ b = c := by simpa using hb
    rcases hb with rfl | rfl
    · exact ⟨.inr oa.s0, oa.loc, oa.cell, oa.pin⟩
    · exact ⟨.inr oc.s0, oc.loc, oc.cell, oc.pin⟩
  · obtain ⟨ob, es, ep, ho, r⟩ := hm
    exact ⟨ob, es, ep, k _ ob (Ne.symm oa.loc) (Ne.symm oc.loc) ho, r⟩
  · by_cases hb : b = a
    · subst hb; rw [upd_same] at e; cases e; exact new
    · rw [upd_ne hb] at e
      refine (I.hok b u e).stay (fun d w hd q => k d w ?_ ?_ q) (fun d q => st d _ q) fun d xs q => st d _ q
      · rcases hd with rfl | hd
        · exact hb
        · exact (ne _ _ hd).1
      · rcases hd with rfl | hd
        · exact (ne _ _ e).2
        · exact (ne _ _ hd).2
end

/-! ### what is sorted -/
structure SortSrc (P : Program) (w : World) (s : Shared) (x : Value) (It : List Value → Prop) : Prop where
  go : ∀ {A : Around} {E : Value → Shared → Prop} {kw : List (Str × Value)} {Q : Value → Shared → Prop}, A.handled = none → argsOk "sorted" ⟨[x], kw⟩ → (∀ y, argsOk "list.sort" ⟨[.ref y], kw⟩) →
    (∀ (vs : List Value) (h1 h' : Heap) (tk : Nat) (a : Addr), It vs → (∀ b o, s.heap.get? b = some o → h1.get? b = some o) → (∀ b o, h1.get? b = some o → h'.get? b = some o) → h1.objs.size ≤ a → h'.get? a = some (seqObj "list" vs.toArray 0) → h'.objs.size = a + 1 →
      ∀ E' : Value → Shared → Prop, wpAny (model P w) A.in1.in1 (Builtin.«list.sort» ⟨[.ref a], kw⟩) (fun f s' => f = .done (.ret .none) ∧ Q (.ref a) s') E' { s with heap := h', toks := tk }) →
    wpAny (model P w) A (call (.builtin "sorted") [x] kw) Q E s
theorem copy_size (h : Heap) (vs : List Value) : (PySem.W.copyHeap h vs).objs.size = h.objs.size + 1 + 1 := by
  unfold PySem.W.copyHeap
  rw [size_push', Heap.size_update, size_push']
theorem src_list {P : Program} {w : World} {s : Shared} {l : Addr} {vs : List Value} (hl : s.heap.IsList l vs.toArray) (hL : vs.length ≤ sizeLine) : SortSrc P w s (.ref l) (fun us => us = vs) := by
  constructor
  intro A E kw Q hh h1 h2 body
  exact PySem.W.sorted_of_sort hl hL h1 h2 fun E' => body vs s.heap (PySem.W.copyHeap s.heap vs) s.toks (s.heap.objs.size + 1) rfl (fun _ _ q => q) (fun b o q => PySem.W.copyHeap_old q) (Nat.le_succ _) (PySem.W.copyHeap_at s.heap vs) (copy_size _ _) E'
theorem src_tup {P : Program} {w : World} {s : Shared} {l : Addr} {vs : List Value} (hl : IsTup s.heap l vs.toArray) (hL : vs.length ≤ sizeLine) : SortSrc P w s (.ref l) (fun us => us = vs) := by
  constructor
  intro A E kw Q hh h1 h2 body
  exact sorted_of_sortT hl hL h1 h2 fun E' => body vs s.heap (PySem.W.copyHeap s.heap vs) s.toks (s.heap.objs.size + 1) rfl (fun _ _ q => q) (fun b o q => PySem.W.copyHeap_old q) (Nat.le_succ _) (PySem.W.copyHeap_at s.heap vs) (copy_size _ _) E'
theorem SortSrc.mono {P : Program} {w : World} {s : Shared} {x : Value} {It It' : List Value → Prop} (h : SortSrc P w s x It) (i : ∀ vs, It vs → It' vs) : SortSrc P w s x It' := by
  constructor
  intro A E kw Q hh h1 h2 body
  exact h.go hh h1 h2 fun vs g1 g' tk a hv => body vs g1 g' tk a (i vs hv)
theorem src_range {P : Program} {w : World} {s : Shared} {r : Addr} {a b : Int} {t u v : Tok} (hr : IsRange s.heap r a b 1 t u v) (ok : L2.RgOk a b) : SortSrc P w s (.ref r) (fun us => Vals (L2.rgV a b) us) := by
  constructor
  intro A E kw Q hh ha1 ha2 body
  obtain ⟨b1, b2, b3, b4, b5⟩ := ok
  refine call_function_entry_kw kind_sorted plain_sorted entry_sorted ha1 ?_
  unfold Builtin.«sorted»
  refine wpAny_bind (m := checkCount "sorted" 1 1 _) (wpAny_pure ?_)
  refine wpAny_bind (L2.collect_range (A := A.in1) (n := (b - a).toNat) hh hr (small_one b1 b2 b3 b4) (rangeSize_nat a b) b5 fun h1 tk acc hk hacc => ?_)
  have hl : acc.toList.length ≤ sizeLine := by rw [Array.length_toList, hacc.1, sizeLine_eq]; omega
  refine wpAny_bind (wpAny_newList ?_ hl)
  show wpAny _ _ _ _ _ { s with heap := h1.push (seqObj "list" acc.toList.toArray 0), toks := tk }
  have hob : (h1.push (seqObj "list" acc.toList.toArray 0)).get? h1.objs.size = some (seqObj "list" acc.toList.toArray 0) := Heap.get?_push_size _ rfl
  refine wpAny_bind (wpAny_holding (wpAny_call_entry_kw slot_list_sort ⟨_, hob, rfl⟩ entry_list_sort ?body (ha2 _)))
  case body =>
    show wpAny (model P w) A.in1.in1 (Builtin.«list.sort» ⟨[.ref h1.objs.size], kw⟩) _ _ _
    refine wpAny_mono (body acc.toList h1 _ tk h1.objs.size (L2.vals_rg hacc) hk (fun b o q => Heap.get?_push_of_some _ q) (Nat.le_refl _) hob (by rw [size_push']) _) (fun f s' hf => ?_) fun _ _ e => e
    obtain ⟨rfl, hq⟩ := hf
    exact ⟨_, rfl, wpAny_pure ⟨_, rfl, hq⟩⟩
/-- an expression that makes a range, which is pinned -/
def PRgP (X : Cx) (e : Expr) (t : L2.St → Hp → (Int → Int → Hp → Prop) → Prop) : Prop :=
  ∀ (pins : List (Addr × Obj)) (s : Shared) (σ : L2.St) (H : Hp) (Q : Int → Int → Hp → Prop), Inv X pins σ H s → t σ H Q →
    wpAny (model X.prog X.w) X.A (eval e X.env) (fun x s' => ∃ r a b t u v H', x = .ref r ∧ IsRange s'.heap r a b 1 t u v ∧ Inv X (pins ++ [(r, { cls := .type "range", dict := none, data := .fields #[.int a t, .int b u, .int 1 v], slots := #[] })]) σ H' s' ∧ Q a b H') X.xe s
section
variable {X : Cx} {a b : Expr} {ta tb : TE}
theorem rg_pin {pins : List (Addr × Obj)} {σ : L2.St} {H : Hp} {s : Shared} {a b : Int} {t u v : Tok} {t' : Nat} (I : Inv X pins σ H s) :
    Inv X (pins ++ [(s.heap.objs.size, { cls := .type "range", dict := none, data := .fields #[.int a t, .int b u, .int 1 v], slots := #[] })]) σ H { s with heap := s.heap.push { cls := .type "range", data := .fields #[.int a t, .int b u, .int 1 v] }, toks := t' } := by
  have I' : Inv X pins σ H { s with heap := s.heap.push { cls := .type "range", data := .fields #[.int a t, .int b u, .int 1 v] }, toks := t' } := I.kept (t' := t') fun b u e => Heap.get?_push_of_some _ e
  exact (OwnAt.of I (Nat.le_refl _)).pinned I' (Heap.get?_push_size _ rfl) (I.hok.fresh (Nat.le_refl _)) fun v z => by cases z
theorem prgp_1 {p pos : Pos} (hg : Gl X "range") (hm : X.mg "range" = none) (ha : PE X a ta) (na : starEach [a] X.env = (false, eval a X.env) :: starEach [] X.env := by rfl) : PRgP X (.Call (.Name "range" p) [a] [] pos) (tRg1 ta) := by
  intro pins s σ H Q I h
  refine Call_ (ld_blt I hg hm boot_range (PyProof.Rows.callWith_type1 (one_arg ha I h (fun v s2 x H2 I2 r q => ?_) na) na))
  obtain ⟨n, rfl, q⟩ := q
  obtain ⟨t, rfl⟩ := r
  exact call_range_1 ⟨_, 0, n, _, _, _, H2, rfl, IsRange.new _ _ _ _ _ _ _, rg_pin I2, q⟩
theorem prgp_2 {p pos : Pos} (hg : Gl X "range") (hm : X.mg "range" = none) (ha : PE X a ta) (hb : PE X b tb) (na : starEach [a, b] X.env = (false, eval a X.env) :: starEach [b] X.env := by rfl)
    (nb : starEach [b] X.env = (false, eval b X.env) :: starEach [] X.env := by rfl) (hp : (backTo pos (starEach [b] X.env)).any (·.1) = false := by rfl) : PRgP X (.Call (.Name "range" p) [a, b] [] pos) (tRg2 ta tb) := by
  intro pins s σ H Q I h
  refine Call_ (ld_blt I hg hm boot_range (PyProof.Rows.callWith_type1 (args_cons (thn (ha.run pins s σ H _ I h) fun v s1 ⟨x, H1, I1, r1, q1⟩ => one_arg hb I1 q1 (fun u s2 y H2 I2 r2 q => ?_) nb) na) na hp))
  obtain ⟨i, j, rfl, rfl, q⟩ := q
  obtain ⟨t, rfl⟩ := r1
  obtain ⟨t', rfl⟩ := r2
  exact call_range_2 ⟨_, i, j, _, _, _, H2, rfl, IsRange.new _ _ _ _ _ _ _, rg_pin I2, q⟩
end
/-! ### a code object is kept in mind -/
theorem EnvR.note {K : Frag} {γ : Gt} {B : Bs} {F H : Hp} {σ : L2.St} {s : Ev.Env} {c : Addr} {q : Str} (en : EnvR K γ B F H σ s) (hc : H c = some (LamX.CodeO c q)) : ∃ B' : Bs, EnvR K γ B' F H σ s ∧
    ∀ {F' H' : Hp} {σ' : L2.St} {s' : Ev.Env}, EnvR K γ B' F' H' σ' s' → Sub F F' → EnvR K γ B F' H' σ' s' ∧ H' c = some (LamX.CodeO c q) := by
  have nc : ∀ {K : Frag} {F H : Hp} {a : Addr} {d : PV}, H c = some (LamX.CodeO c q) → OwnR K F H a d → a ≠ c := fun {K F H a d} hc h e => by
    obtain ⟨o, h1, _, h3⟩ := h.kind
    rw [e, hc] at h1
    exact h3 _ (Option.some.inj h1).symm
  have hl : ∀ p ∈ B.I, p.2 ≠ c := fun p hp => by
    obtain ⟨d, h1, h2⟩ := en.lent p hp
    obtain ⟨a, h3, _, _, h4⟩ := en.slot _ _ h1
    rw [h2] at h3
    cases h3
    exact nc hc h4
  have hnt : ∀ (a : Addr) (ps : Array Value), (if a = c then some (LamX.CodeO c q) else B.H0 a) ≠ some (HO.tbl ps) := fun a ps h => by
    by_cases e : a = c
    · rw [if_pos e] at h
      exact LamX.codeO_ne ps (Option.some.inj h)
    · rw [if_neg e] at h
      exact B.nt a ps h
  let B' : Bs := ⟨fun b => if b = c then some (LamX.CodeO c q) else B.H0 b, fun b => if b = c then F c else B.F0 b, B.I, B.T, hnt⟩
  have h0c : B'.H0 c = some (LamX.CodeO c q) := if_pos rfl
  have h0n : ∀ {a}, a ≠ c → B'.H0 a = B.H0 a := fun e => if_neg e
  have f0c : B'.F0 c = F c := if_pos rfl
  have f0n : ∀ {a}, a ≠ c → B'.F0 a = B.F0 a := fun e => if_neg e
  refine ⟨B', ⟨en.fh, en.len, fun i x h => ?_, en.apart, fun p hp => ?_, en.tmpA, en.tmpN, en.lent, fun a o h n => ?_, fun a o h => ?_, fun a o h => ?_, en.tab, en.ftb⟩, fun {F' H' σ' s'} e' sub => ?_⟩
  · have w := en.slot i x h
    cases x with
    | emp => trivial
    | frz d => exact w
    | fn f => exact w
    | own d => obtain ⟨a, w1, w2, w3, w4⟩ := w; exact ⟨a, w1, w2, (h0n (nc hc w4)).trans w3, w4⟩
    | io d => exact w
  · obtain ⟨h1, h2, h3⟩ := en.tmp p hp
    exact ⟨h1, (h0n (nc hc h3)).trans h2, h3⟩
  · by_cases e : a = c
    · subst e; rw [h0c] at h; cases h; exact hc
    · rw [h0n e] at h; exact en.keep a o h n
  · by_cases e : a = c
    · subst e; exact .inl (f0c.trans h)
    · rw [f0n e, h0n e]; exact en.fnew a o h
  · by_cases e : a = c
    · subst e; rw [f0c] at h; exact h
    · rw [f0n e] at h; exact en.fold a o h
  · have hc' : H' c = some (LamX.CodeO c q) := e'.keep c _ h0c hl
    have ne : ∀ {a}, B'.H0 a = none → a ≠ c := fun h e => by rw [e, h0c] at h; cases h
    refine ⟨⟨e'.fh, e'.len, fun i x h => ?_, e'.apart, fun p hp => ?_, e'.tmpA, e'.tmpN, e'.lent, fun a o h n => ?_, fun a o h => ?_, en.fold.trans sub, e'.tab, e'.ftb⟩, hc'⟩
    · have w := e'.slot i x h
      cases x with
      | emp => trivial
      | frz d => exact w
      | fn f => exact w
      | own d => obtain ⟨a, w1, w2, w3, w4⟩ := w; exact ⟨a, w1, w2, (h0n (ne w3)).symm.trans w3, w4⟩
      | io d => exact w
    · obtain ⟨h1, h2, h3⟩ := e'.tmp p hp
      exact ⟨h1, (h0n (ne h2)).symm.trans h2, h3⟩
    · by_cases e : a = c
      · subst e
        have := en.keep a o h n
        rw [hc] at this
        cases this
        exact hc'
      · exact e'.keep a o ((h0n e).trans h) n
    · by_cases e : a = c
      · subst e
        rcases e'.fnew a o h with q | q
        · rw [f0c] at q; exact en.fnew a o q
        · rw [h0c] at q; cases q
      · rw [← f0n e, ← h0n e]; exact e'.fnew a o h
/-! ### the rule -/
section
variable {p : Prg} {n : Nat} {S : Sx} {γ : Gt}
/-- one turn: a key -/
def keyTurn (c : Cf) (i : Nat) (key : E) : PV → M (Option PV) := fun x => do
  bindT (.name i) x
  let r ← ev c key; let v ← fz r; pure (some v)
theorem zip_snd {α β : Type} : ∀ {l : List α} {m : List β}, l.length = m.length → (l.zip m).map (·.2) = m
  | [], [], _ => rfl
  | a :: l, b :: m, h => by rw [List.zip_cons_cons, List.map_cons, zip_snd (by simpa using h)]
  | [], _ :: _, h => by simp at h
  | _ :: _, [], h => by simp at h
theorem zip_fst {α β : Type} : ∀ {l : List α} {m : List β}, l.length = m.length → (l.zip m).map (·.1) = l
  | [], [], _ => rfl
  | a :: l, b :: m, h => by rw [List.zip_cons_cons, List.map_cons, zip_fst (by simpa using h)]
  | [], _ :: _, h => by simp at h
  | _ :: _, [], h => by simp at h
theorem each_zip {K : Frag} {F : Hp} : ∀ {us : List Value} {xs ks : List PV}, W.EachIs (ItemR K F) us xs → ks.length = xs.length → W.EachIs (fun u (q : PV × PV) => ItemR K F u q.2) us (ks.zip xs)
  | _, _, [], .nil, _ => .nil
  | _, _, k :: ks, .cons h t, e => .cons h (each_zip t (by simpa using e))
  | _, _, _ :: _, .nil, e => by simp at e
  | _, _, [], .cons _ _, e => by simp at e
theorem each_snd {K : Frag} {F : Hp} : ∀ {us : List Value} {qs : List (PV × PV)}, W.EachIs (fun u (q : PV × PV) => ItemR K F u q.2) us qs → W.EachIs (ItemR K F) us (qs.map (·.2))
  | _, _, .nil => .nil
  | _, _, .cons h t => .cons h (each_snd t)
theorem ItemR.sub {K : Frag} {F F' : Hp} (s : Sub F F') {u : Value} {d : PV} (h : ItemR K F u d) : ItemR K F' u d := by
  obtain ⟨v, r, q⟩ := h
  exact ⟨v, r, Rp.sub s q⟩
theorem each_snoc {α β : Type} {R : α → β → Prop} : ∀ {us : List α} {ds : List β} {u : α} {d : β}, W.EachIs R us ds → R u d → W.EachIs R (us ++ [u]) (ds ++ [d])
  | _, _, _, _, .nil, h => .cons h .nil
  | _, _, _, _, .cons a t, h => .cons a (each_snoc t h)
theorem sort_core {X : Cx} (c : XC p γ n S X) {pins : List (Addr × Obj)} {σ : L2.St} {H1 : Hp} {s1 : Shared} {B : Bs} {F1 : Hp} {t0 t1 : Ev.Env} {i : Nat} {z : Str} {key : E} {xs ks : List PV} {x : Value} {It : List Value → Prop} {Q : VK}
    {ps : Arguments} {b : Expr} {ls : Scope} {lp kp pos : Pos} (hkey : ∀ S, SE p γ n S key) (hlam : S.lam = true) (hi : S.N[i]? = some z) (hps : lamPs1 z ps = true) (hsb : lamSB1 X.env.scope ls z = true) (hck : chk { S with lam := false, gd := false } ls key b = true)
    (I1 : Inv X pins σ H1 s1) (en : EnvR X.K γ B F1 H1 σ t0) (src : ∀ H2 s2, Inv X pins σ H2 s2 → LamX.ExtN H1 H2 → SortSrc X.prog X.w s2 x It) (hIt : ∀ vs, It vs → W.EachIs (ItemR X.K F1) vs xs)
    (hloop : lcAll [i] (keyTurn (p.cf n) i key) xs t0 = .ok (.own (.list ks)) t1) (hso : sortable ks = true) (hlen : ks.length = xs.length) (hz : ks.length ≤ lim)
    (kk : ∀ v H' F', Sub F1 F' → EnvR X.K γ B F' H' σ t1 → RvR X.K B F' H' σ t1 v (.own (.list (sortBy ks xs))) → Q v H') :
    wpAny (model X.prog X.w) X.A (evalAll ((backToKw pos (keywordEach [⟨some "key", .Lambda ps b ls lp, kp⟩] X.env)).map (·.2))) (fun kvs s2 => wpAny (model X.prog X.w) X.A (call (.builtin "sorted") [x] ([(Str.ofString "key" : Str)].zip kvs)) (EP X pins σ Q) X.xe s2) X.xe s1 := by
  obtain ⟨cc, P, l1, l2, l3, l4⟩ := c.lam hlam
  have L := lamS1_by hsb
  have hiX : X.N[i]? = some z := by rw [c.hN]; exact hi
  obtain ⟨hal, hsrt, hdep, hpl⟩ := sortable_parts hso
  -- the loop
  unfold lcAll at hloop
  obtain ⟨acc, se, w4, w5⟩ := RE.andThen_inv hloop
  injection w5 with e4 e5
  injection e4 with e4
  injection e4 with e4
  have e4 := e4.symm
  subst e4
  obtain ⟨_, s4, w6, w7⟩ := bind_inv w4
  obtain ⟨hh, rfl⟩ := hideM_inv w6
  show wpAny _ _ (evalAll ((do let v ← eval (.Lambda ps b ls lp) X.env; standAt pos; pure v) :: (backToKw pos (keywordEach [] X.env)).map (·.2))) _ _ s1
  refine wpAny_evalAll_cons (wpAny_bind (LamX.lam_make2 I1 l2 l1 l3 l4 en.tab (lam_dflt1 hps) (L.has I1.ok) fun f c' pm ctv H2 s2 I2 eN T2 hf hfn hfr hco => ?_))
  refine wpAny_bind (wpAny_standAt (wpAny_pure ?_))
  refine wpAny_evalAll_nil ?_
  show wpAny (model X.prog X.w) X.A (call (.builtin "sorted") [x] [(Str.ofString "key", .ref f)]) _ _ s2
  have en2 : EnvR X.K γ B F1 H2 σ t0 := en.ext eN T2
  obtain ⟨B', en3, back⟩ := en2.note hco
  have fL : f ∉ X.fs := fun hb => hfr (by
    unfold frs
    rcases I2.ok.stk with e | ⟨e, hF⟩
    · rw [e]; exact hb
    · rw [e]
      rw [List.filterMap_cons, hF]
      exact List.mem_cons_of_mem _ hb)
  have fne : f ≠ X.env.locals := fun e => by
    obtain ⟨m, ⟨o', es, ep, ho', hd', _⟩, _⟩ := I2.loc
    rw [← e, hf] at ho'
    cases ho'
    cases hd'
  generalize hfo : PySem.W.kla_obj "<lambda>" (X.env.qual ++ "<lambda>") ps b ls (cloFrom X.env.cells ls.names []) pm c' ctv = fo at hf
  have fdat : ∀ v, fo.data ≠ .cell v := fun v h => by rw [← hfo] at h; cases h
  have I3 : Inv X (pins ++ [(f, fo)]) σ H2 s2 := I2.pins_of fun q hq => (List.mem_append.mp hq).elim (fun z => I2.pin q (List.mem_append_right _ z)) fun z => by
    have e : q = (f, fo) := by simpa using z
    subst e
    exact ⟨hf, hfn, fne, fL, fdat⟩
  refine (src H2 s2 I2 eN).go (A := X.A) (I2.ok.hd c.calm) (PyProof.Rows.ksk_s1 _ _) (fun _ => PyProof.Rows.ksk_l1 _ _) fun vs h1 h' tk a hvs k1 k2 ha hoa hsz E' => ?_
  rw [PyProof.Rows.ksk_t1]
  have hes := hIt vs hvs
  have hvl : vs.length = xs.length := hes.length
  have J1 : Inv X (pins ++ [(f, fo)]) σ H2 { s2 with heap := h1 } := I3.kept (t' := s2.toks) k1
  have J2 : Inv X (pins ++ [(f, fo)]) σ H2 { s2 with heap := h', toks := tk } := I3.kept (t' := tk) fun b o q => k2 b o (k1 b o q)
  have oa : OwnAt X (pins ++ [(f, fo)]) a := OwnAt.of J1 ha
  have oS : OwnAt X (pins ++ [(f, fo)]) (h'.objs.size + 1) := OwnAt.of J2 (Nat.le_succ _)
  have na2 : H2 a = none := J1.hok.fresh ha
  have nS2 : H2 (h'.objs.size + 1) = none := J2.hok.fresh (Nat.le_succ _)
  have hi0 : ∃ y, t0[i]? = some y ∧ hideable y = true := by
    have := List.all_eq_true.mp hh i (by simp)
    cases hy : t0[i]? with
    | none => rw [hy] at this; cases this
    | some y => rw [hy] at this; exact ⟨y, rfl, this⟩
  obtain ⟨y0, hy0, hyd⟩ := hi0
  have nio : isIo y0 = false := by cases y0 <;> first | rfl | cases hyd
  have hit : i < t0.length := (List.getElem?_eq_some_iff.mp hy0).1
  have hdat : ∀ (kA : Array Value) (e : Nat) (v : Option Value), (seqObj "list" kA e).data ≠ .cell v := fun kA e v z => by cases z
  refine keyJ_tree (s := { s2 with heap := h', toks := tk }) (a := a) (kS := h'.objs.size + 1) (kz := ks) (vs := vs) (b := false)
    (fun j us s' => ∃ H F se2 acc2, Inv X (pins ++ [(f, fo)]) σ H s' ∧ EnvR X.K γ B' F H σ se2 ∧ Sub F1 F ∧ H a = none ∧ H (h'.objs.size + 1) = none ∧ se2[i]? = some .emp ∧ W.EachIs (ItemR X.K F) us acc2 ∧ lcLoop [i] (keyTurn (p.cf n) i key) (xs.drop j) acc2 se2 = .ok ks se)
    hoa (hlen.trans hvl.symm) (by rw [hvl, ← hlen, ← lim_eq]; exact hz) hal hsrt (fun d hd => by
      have u1 := hdep d hd
      have u2 := c.u
      show X.A.units + 1 + 1 + d.depth < cLine
      omega) rfl ?j0 ?jup ?turn ?read ?fin
  case j0 =>
    intro h'' kb
    have J3 := Inv.turned (s := { s2 with heap := h', toks := tk }) (h' := h'') (t' := tk) (it := a) J2 (fun b o hb q => kb b o hb q) na2 oa.loc (.inr oa.s0) oa.cell oa.pin
    exact ⟨H2, F1, t0.set i .emp, [], J3, en3.putEmp hy0 nio, Sub.refl F1, na2, nS2, List.getElem?_set_self hit, .nil, by rw [List.drop_zero]; exact w7⟩
  case jup =>
    rintro j us s' kA e g ⟨H, F, se2, acc2, I, er, sub, n1, n2, he, hit', hl⟩ hk
    have sb := Heap.SameBut.update s'.heap (h'.objs.size + 1) (Obj.mapSeq g)
    exact ⟨H, F, se2, acc2, I.turned (t' := s'.toks) (it := h'.objs.size + 1) (fun b o hb q => (sb.2 b hb).trans q) n2 oS.loc (.inr oS.s0) oS.cell oS.pin, er, sub, n1, n2, he, hit', hl⟩
  case read =>
    rintro us s' ⟨H, F, se2, acc2, I, er, sub, n1, n2, he, hit', hl⟩
    rw [hvl, List.drop_length] at hl
    obtain ⟨rfl, rfl⟩ := pure_inv hl
    exact each_mono hit' fun u d hd ⟨v, r1, r2⟩ => Dp.reads I d v u ((Rp.sub er.fh r2).dp (hpl d hd)) r1
  case fin =>
    rintro s' us h3 tk3 out c3 ⟨H, F, se2, acc2, I, er, sub, n1, n2, he, hit', hl⟩ keep2 hout ko
    refine ⟨rfl, ?_⟩
    rw [hvl, List.drop_length] at hl
    obtain ⟨rfl, rfl⟩ := pure_inv hl
    have ko2 : PySem.W.KeyedOut false ((ks.zip xs).map (·.1)) vs out := by rw [zip_fst hlen]; exact ko
    have e1 := PySem.W.keyedOut_each (fun q : PV × PV => q.1) ko2 (each_zip (each_mono hes fun u d _ h => ItemR.sub sub h) hlen)
    have e2 := each_snd e1
    rw [← isort_key] at e2
    obtain ⟨ws, r1, r2⟩ := each_all e2
    have hwl : ws.length = ks.length := by
      rw [r1.length, ko.length (hlen.trans hvl.symm), hvl, hlen]
    have hz' : ws.length ≤ sizeLine := by rw [hwl, ← lim_eq]; exact hz
    have J4 := inv_two (t' := tk3) (o := .lst ws) I keep2 n1 n2 oa oS ⟨hz', out, c3, r1, hout⟩
    obtain ⟨er2, _⟩ := back er sub
    have e5' : EnvR X.K γ B F H σ (restore [i] t0 se) := by
      refine er2.restored [i] rfl (fun _ _ => rfl) (fun j hj => ?_) fun j hj => ?_
      · have e : j = i := by simpa using hj
        subst e
        exact ⟨.emp, he, rfl⟩
      · have e : j = i := by simpa using hj
        subst e
        refine ⟨y0, hy0, hyd, ?_⟩
        have w := en.slot j y0 hy0
        cases y0 with
        | emp => trivial
        | frz d => obtain ⟨v, w1, w2⟩ := w; exact ⟨v, w1, Rp.sub sub w2⟩
        | own d => cases hyd
        | io d => cases hyd
        | fn f => cases hyd
    have g : Grow F H F (upd H a (.lst ws)) := Grow.own er2.fh n1
    rw [e5] at e5'
    exact ⟨.ref a, _, J4.unpinned, rfl, kk _ _ F sub (e5'.grow g) (ResR.rv e5' g ⟨a, rfl, n1, er2.fh.none n1, ws, upd_same, r2⟩)⟩
  case turn =>
    rintro j v s' us kA e e1 hv ⟨H, F, se2, acc2, I, er, sub, n1, n2, he, hit', hl⟩ nk na
    obtain ⟨d, hd, xv, rv, rp⟩ := each_at hes hv
    rw [drop_cons hd] at hl
    obtain ⟨ro, t1', f1, v1⟩ := bind_inv hl
    obtain ⟨_, t2', f2, v2⟩ := bind_inv v1
    obtain ⟨hh2, rfl⟩ := hideM_inv f2
    obtain ⟨_, t3, f3, v3⟩ := bind_inv f1
    obtain ⟨r1, t5, f5, v5⟩ := bind_inv v3
    obtain ⟨dv, t6, f6, v6⟩ := bind_inv v5
    obtain ⟨rfl, rfl⟩ := pure_inv v6
    have et := fz_same f6
    subst et
    have f3 : store i (.frz d) se2 = .ok () t3 := by simpa only [bindT] using f3
    obtain ⟨y1, hy1, ny1, ⟨d', e1', rfl⟩ | ⟨d', e1', rfl⟩⟩ := store_inv f3
    case inr => cases e1'
    cases e1'
    have I4 := OwnAt.pinned (pins := pins ++ [(f, fo)]) oS I nk n2 (hdat _ _)
    have oa2 : OwnAt X (pins ++ [(f, fo)] ++ [(h'.objs.size + 1, seqObj "list" kA e)]) a := ⟨oa.s0, oa.loc, oa.cell, fun q hq => by
      rcases List.mem_append.mp hq with q1 | q1
      · exact oa.pin q (List.mem_append_left _ q1)
      · rcases List.mem_append.mp q1 with q1 | q1
        · exact oa.pin q (List.mem_append_right _ q1)
        · have e : q = (h'.objs.size + 1, seqObj "list" kA e) := by simpa using q1
          rw [e]
          have : a < h'.objs.size := Heap.lt_size hoa
          exact Nat.ne_of_gt (Nat.lt_succ_of_lt this)⟩
    have I5 := oa2.pinned I4 na n1 (hdat _ _)
    have hfo' : s'.heap.get? f = some (PySem.W.kla_obj "<lambda>" (X.env.qual ++ "<lambda>") ps b ls (cloFrom X.env.cells ls.names []) pm c' ctv) := by
      rw [hfo]
      exact (I.pin (f, fo) (by simp)).1
    obtain ⟨_, hcH⟩ := back er sub
    obtain ⟨hcc, _, _⟩ := I5.hok c' _ hcH
    have hput : EnvR X.K γ B' F H (σ.set i (some xv)) (se2.set i (.frz d)) := er.putFrz hy1 ny1 (Rp.sub sub rp)
    have hr : Room (5 * n + 1) X.A.in1.in1 := (show Room (5 * n + 2) X.A.in1 from ((c.roomL hlam).mono (show 5 * n + 3 ≤ 5 * n + 4 by omega)).in1).in1
    refine thn (lam_call1 (A := X.A.in1.in1) (q := "") (tb := tU X.K γ (p.cf n) key) (Q := fun kv H6 => ∃ F6, Sub F F6 ∧ EnvR X.K γ B' F6 H6 (σ.set i (some xv)) t1' ∧ Rp X.K F6 kv dv) I5 L c.nd hiX rv hfo' hcc (lam_bind1 hps) hr I5.env0.in1.in1
      (fun hr' => hkey _ _ b (XC.lamc c hr') hck) (tU_good f5 hput fun y H6 F6 q6 e6 ry => ?_)) fun u s6 hu => ?_
    · obtain ⟨_, rdv⟩ := fz_ok ry f6
      exact ⟨F6, q6, e6, rdv⟩
    · obtain ⟨kv, H6, I6, ru, F6, sub6, e6, rk⟩ := hu
      obtain ⟨p1, p2, _⟩ := I6.pin (h'.objs.size + 1, seqObj "list" kA e) (by simp)
      obtain ⟨p3, p4, _⟩ := I6.pin (a, seqObj "list" #[] e1) (by simp)
      refine ⟨p1, p3, H6, F6, hide [i] t1', acc2 ++ [dv], I6.unpinned.unpinned, ?_, sub.trans sub6, p4, p2, ?_, ?_, v2⟩
      · have hi5 := List.all_eq_true.mp hh2 i (by simp)
        cases hy : t1'[i]? with
        | none => rw [hy] at hi5; cases hi5
        | some y5 =>
          rw [hy] at hi5
          have n5 : isIo y5 = false := by cases y5 <;> first | rfl | cases hi5
          exact e6.put (σ' := σ) (x := .emp) hy n5 (by simp) (fun j' hj' => (List.getElem?_set_ne (Ne.symm hj')).symm) trivial rfl
      · exact hide_emp hh2 i (by simp)
      · exact each_snoc (each_mono hit' fun _ _ _ h => ItemR.sub sub6 h) ⟨kv, ru, rk⟩

theorem boot_sorted' : bootBuiltins "sorted" = some (.builtin "sorted") := by decide +kernel
theorem se_sortK {i : Nat} {key : E} {k : ItK} {its : List E} (hkey : ∀ S, SE p γ n S key) (hits : ∀ e ∈ its, SE p γ n S e) : SE p γ n S (.sortK i key k its) := fun X x c h => by
  simp only [chk] at h
  split at h
  case h_2 => cases h
  rename_i f pf y nm ps b ls lp kp pos
  simp only [Bool.and_eq_true, decide_eq_true_eq] at h
  obtain ⟨⟨⟨⟨⟨⟨⟨⟨hlam, rfl⟩, rfl⟩, hg⟩, hns⟩, hpar⟩, hck⟩, hk⟩, hit⟩ := h
  split at hpar
  case h_2 => cases hpar
  rename_i z hz
  rw [Bool.and_eq_true] at hpar
  obtain ⟨hps, hsb⟩ := hpar
  split at hit
  case h_2 => cases hit
  rename_i ys hys
  refine ⟨fun pins s σ H Q I q => ?_⟩
  obtain ⟨B, s0, r0, s', hv, F, en, kk⟩ := q
  obtain ⟨rs, t1, g1, w1⟩ := bind_inv hv
  obtain ⟨ds, t2, g2, w2⟩ := bind_inv w1
  obtain ⟨xs, t3, g3, w3⟩ := bind_inv w2
  obtain ⟨g3', e3⟩ := opt_inv g3
  obtain ⟨rk, t4, g4, w4⟩ := bind_inv w3
  obtain ⟨w4', e4⟩ := opt_inv w4
  have e2 : t2 = t1 := fzs_same g2
  subst e2
  subst e3
  subst e4
  have g4 : lcAll [i] (keyTurn (p.cf n) i key) xs t3 = .ok rk s' := g4
  unfold sortKOp at w4'
  split at w4'
  case h_2 => cases w4'
  rename_i ks
  split at w4'
  case isFalse => cases w4'
  rename_i hc
  cases w4'
  simp only [Bool.and_eq_true, decide_eq_true_eq] at hc
  obtain ⟨⟨hso, hlen⟩, hzl⟩ := hc
  refine wpAny_Call_Name_kw (ld_blt I (gloB_ok rfl hg) (c.blt _ (by decide +kernel)) boot_sorted' ?_ (by decide) (by decide))
  -- whatever the items are
  have fin : ∀ {pl : List (Addr × Obj)} {u : Value} {H1 : Hp} {s1 : Shared} {F1 : Hp}, Inv X (pins ++ pl) σ H1 s1 → Sub F F1 → EnvR X.K γ B F1 H1 σ t3 →
      (∀ H2 s2, Inv X (pins ++ pl) σ H2 s2 → LamX.ExtN H1 H2 → SortSrc X.prog X.w s2 u fun us => W.EachIs (ItemR X.K F1) us xs) →
      wpAny (model X.prog X.w) X.A (evalAll ((backToKw pos (keywordEach [⟨some "key", .Lambda ps b ls lp, kp⟩] X.env)).map (·.2))) (fun kvs s2 => wpAny (model X.prog X.w) X.A (call (.builtin "sorted") [u] ([(Str.ofString "key" : Str)].zip kvs)) (EP X pins σ Q) X.xe s2) X.xe s1 := by
    intro pl u H1 s1 F1 I1 q1 e1 hsrc
    have := sort_core (pos := pos) (lp := lp) (kp := kp) (Q := Q) c hkey hlam hz hps hsb hck I1 e1 hsrc (fun _ h => h) g4 hso hlen hzl fun v H' F' q2 e2 r2 => kk v H' F' (q1.trans q2) e2 r2
    refine wpAny_mono this (fun kvs s2 h => wpAny_mono h (fun v s3 ⟨a, H', I', ra, qa⟩ => ⟨a, H', I'.unpinned, ra, qa⟩) fun _ _ e => e) fun _ _ e => e
  have ext : ∀ {H1 H2 F1 : Hp}, EnvR X.K γ B F1 H1 σ t3 → LamX.ExtN H1 H2 → Sub F1 H2 := fun {H1 H2 F1} e1 x b o hb => x b o (e1.fh b o hb) fun ps z => e1.ftb b ps (by rw [hb, z])
  have go : ∀ {u : Value} {s1 : Shared}, wpAny (model X.prog X.w) X.A (evalAll ((backToKw pos (keywordEach [⟨some "key", .Lambda ps b ls lp, kp⟩] X.env)).map (·.2))) (fun kvs s2 => wpAny (model X.prog X.w) X.A (call (.builtin "sorted") [u] ([(Str.ofString "key" : Str)].zip kvs)) (EP X pins σ Q) X.xe s2) X.xe s1 →
      wpAny (model X.prog X.w) X.A (evalAll ((backToKw pos (keywordEach [⟨some "key", .Lambda ps b ls lp, kp⟩] X.env)).map (·.2))) (fun kvs s2 => wpAny (model X.prog X.w) X.A (call (.builtin "sorted") [u] (((backToKw pos (keywordEach [⟨some "key", .Lambda ps b ls lp, kp⟩] X.env)).filterMap (·.1)).zip kvs)) (EP X pins σ Q) X.xe s2) X.xe s1 := fun h => h
  refine PyProof.Rows.callWith_kw ?_ (by rw [star_cons hns]; rfl) (star_plain (by rw [List.all_cons, hns]; rfl)) rfl rfl
  rw [star_cons hns]
  show wpAny _ _ (spliced ((false, eval y X.env) :: backTo pos (starEach [] X.env))) _ _ s
  have hk' : k = .val ∨ k = .rng := by
    cases k <;> first | exact .inl rfl | exact .inr rfl | cases hk
  rcases hk' with rfl | rfl
  · -- a value
    obtain rfl : [y] = ys := Option.some.inj hys
    obtain ⟨e, es', rfl, h6, h7⟩ := chks_cons hit
    obtain rfl := chks_nil h7
    obtain ⟨r1, u1, f1, v1⟩ := bind_inv g1
    obtain ⟨rs2, u2, f2, v2⟩ := bind_inv v1
    obtain ⟨rfl, rfl⟩ := pure_inv f2
    obtain ⟨rfl, rfl⟩ := pure_inv v2
    refine Calls.spliced_cons (thn ((hits e (by simp) X y c h6).run pins s σ H (fun v H1 => ∃ F1 d, Sub F F1 ∧ EnvR X.K γ B F1 H1 σ t3 ∧ Rp X.K F1 v d ∧ ds = [d]) I (tU_good f1 en fun v H1 F1 q1 e1 rv => ?_)) fun u s1 hu => Calls.spliced_nil ?_)
    · obtain ⟨_, ra⟩ := fzs_ok (.cons rv .nil) g2
      have hl := ra.length
      match ds, hl, ra with
      | [d], _, .cons a .nil => exact ⟨F1, d, q1, e1, a, rfl⟩
    · obtain ⟨v, H1, I1, ru, F1, d, q1, e1, rp, rfl⟩ := hu
      refine go (fin (pl := []) (by rw [List.append_nil]; exact I1) q1 e1 fun H2 s2 I2 eN => ?_)
      rw [List.append_nil] at I2
      have sub := ext e1 eN
      have g3' : seq? d = some xs := g3'
      cases rp with
      | lst ha ra =>
        cases g3'
        cases ru
        obtain ⟨hz, its, n, rv, hl, e⟩ := lstR I2 (Rd.sub sub ha)
        exact (src_list ⟨_, e, rfl, n, rfl⟩ (by rw [← hl]; exact hz)).mono fun us h => by subst h; exact RpAll.each rv ra
      | tup ha ra =>
        cases g3'
        cases ru
        obtain ⟨its, rv, ht, hz⟩ := I2.tuple (SqT.sub sub ha.sqt)
        exact (src_tup ht (by rw [← rv.length]; exact hz)).mono fun us h => by subst h; exact RpAll.each rv ra
      | _ => cases g3'
  · -- a range
    simp only [itArgs] at hys
    split at hys
    case h_2 => cases hys
    rename_i fr pr zs pos2
    split at hys
    case isFalse => cases hys
    rename_i hcond
    obtain ⟨rfl, hgr, hall, hl2⟩ := hcond
    obtain rfl : zs = ys := Option.some.inj hys
    have hm : X.mg "range" = none := c.blt _ (by decide +kernel)
    have rg : ∀ {lo hi : Int} {F1 H1 : Hp} {s1 : Shared} {r : Addr} {t u v : Tok}, RgOk lo hi → RpAll X.K F1 (rgV lo hi) xs → EnvR X.K γ B F1 H1 σ t3 → Sub F F1 →
        Inv X (pins ++ [(r, { cls := .type "range", dict := none, data := .fields #[.int lo t, .int hi u, .int 1 v], slots := #[] })]) σ H1 s1 →
        wpAny (model X.prog X.w) X.A (evalAll ((backToKw pos (keywordEach [⟨some "key", .Lambda ps b ls lp, kp⟩] X.env)).map (·.2))) (fun kvs s2 => wpAny (model X.prog X.w) X.A (call (.builtin "sorted") [.ref r] ([(Str.ofString "key" : Str)].zip kvs)) (EP X pins σ Q) X.xe s2) X.xe s1 := by
      intro lo hi F1 H1 s1 r t u v ok ra e1 q1 I1
      refine fin I1 q1 e1 fun H2 s2 I2 eN => ?_
      exact (src_range (I2.pin (r, { cls := .type "range", dict := none, data := .fields #[.int lo t, .int hi u, .int 1 v], slots := #[] }) (by simp)).1 ok).mono fun us h => RpAll.each h ra
    rcases hl2 with hl2 | hl2
    · obtain ⟨y1, rfl⟩ := List.length_eq_one_iff.mp hl2
      obtain ⟨e, es', rfl, h6, h7⟩ := chks_cons hit
      obtain rfl := chks_nil h7
      have hy1 : notStar y1 = true := by simpa using hall
      obtain ⟨r1, u1, f1, v1⟩ := bind_inv g1
      obtain ⟨rs2, u2, f2, v2⟩ := bind_inv v1
      obtain ⟨rfl, rfl⟩ := pure_inv f2
      obtain ⟨rfl, rfl⟩ := pure_inv v2
      refine Calls.spliced_cons (thn (prgp_1 (gloB_ok rfl hgr) hm (hits e (by simp) X y1 c h6) (star_cons hy1) pins s σ H (fun a b H1 => ∃ F1, RgOk a b ∧ RpAll X.K F1 (rgV a b) xs ∧ EnvR X.K γ B F1 H1 σ t3 ∧ Sub F F1) I (tU_good f1 en fun v H1 F1 q1 e1 rv => ?_)) fun u s1 hu => Calls.spliced_nil ?_)
      · obtain ⟨_, ra⟩ := fzs_ok (.cons rv .nil) g2
        rcases rng_inv g3' with ⟨m, rfl, b1, b2, rfl⟩ | ⟨lo, hi, rfl, _⟩
        · obtain ⟨v', ws, e5, r5, r6⟩ := ra.cons_inv
          cases e5
          cases r5
          refine ⟨m, rfl, F1, ⟨by decide, by decide, b1, by omega, by omega⟩, ?_, e1, q1⟩
          have := seq_range (K := X.K) (F := F1) (lo := 0) (hi := m) rfl
          simpa using this
        · have := ra.length; simp at this
      · obtain ⟨r, a, b', t, u', v, H1, rfl, _, I1, F1, ok, ra, e1, q1⟩ := hu
        exact go (rg ok ra e1 q1 I1)
    · obtain ⟨y1, y2, rfl⟩ := len_two hl2
      obtain ⟨e, es', rfl, h6, h7⟩ := chks_cons hit
      obtain ⟨e', es', rfl, h8, h9⟩ := chks_cons h7
      obtain rfl := chks_nil h9
      have hy : notStar y1 = true ∧ notStar y2 = true := by simpa using hall
      obtain ⟨r1, u1, f1, v1⟩ := bind_inv g1
      obtain ⟨rs2, u2, f2, v2⟩ := bind_inv v1
      obtain ⟨r3, u3, f3, v3⟩ := bind_inv f2
      obtain ⟨rs4, u4, f4, v4⟩ := bind_inv v3
      obtain ⟨rfl, rfl⟩ := pure_inv f4
      obtain ⟨rfl, rfl⟩ := pure_inv v4
      obtain ⟨rfl, rfl⟩ := pure_inv v2
      refine Calls.spliced_cons (thn (prgp_2 (gloB_ok rfl hgr) hm (hits e (by simp) X y1 c h6) (hits e' (by simp) X y2 c h8) (star_cons hy.1) (star_cons hy.2) (star_plain (by simpa using hy.2)) pins s σ H (fun a b H1 => ∃ F1, RgOk a b ∧ RpAll X.K F1 (rgV a b) xs ∧ EnvR X.K γ B F1 H1 σ t3 ∧ Sub F F1) I
        (two (R := fun x y H2 => ∃ i j, x = .int i ∧ y = .int j ∧ ∃ F1, RgOk i j ∧ RpAll X.K F1 (rgV i j) xs ∧ EnvR X.K γ B F1 H2 σ t3 ∧ Sub F F1) f1 f3 en fun v w H1 F1 q1 e1 rv rw' => ?_)) fun u s1 hu => Calls.spliced_nil ?_)
      · obtain ⟨_, ra⟩ := fzs_ok (.cons rv (.cons rw' .nil)) g2
        rcases rng_inv g3' with ⟨m, rfl, _⟩ | ⟨lo, hi, rfl, b1, b2, b3, b4, b5, rfl⟩
        · have := ra.length; simp at this
        · obtain ⟨v', ws, e5, r5, r6⟩ := ra.cons_inv
          cases e5
          obtain ⟨v', ws, e5, r7, r8⟩ := r6.cons_inv
          cases e5
          cases r5
          cases r7
          exact ⟨lo, hi, rfl, rfl, F1, ⟨b1, b2, b4, b5, by omega⟩, seq_range rfl, e1, q1⟩
      · obtain ⟨r, a, b', t, u', v, H1, rfl, _, I1, F1, ok, ra, e1, q1⟩ := hu
        exact go (rg ok ra e1 q1 I1)
end
end Ev

/-! EvN: max and min of a list, by a lambda. -/
namespace Ev
open PySem PySem.Spec PyProof.Rows L2
section
/-- what such a loop keeps: the items so far and their keys -/
structure KLoop (prog : Program) (w : World) (A : Around) (op : CmpOp) (I S f : Addr) (n : Nat) (J : Nat → List Value → List Value → Shared → Prop) (JN : Nat → List Value → List Value → Value → Shared → Prop) (JD : List Value → List Value → Shared → Prop) (bt : Nat → Nat → Bool) : Prop where
  len : ∀ m us ks s, J m us ks s → us.length = m ∧ ks.length = m
  next : ∀ m us ks (s : Shared) a e (E : Value → Shared → Prop), m < n → J m us ks s → s.heap.get? S = some (seqObj "list" a e) → wpAny (model prog w) A (pyNext (.ref I)) (fun r s1 => ∃ v, r = some v ∧ s1.heap.get? S = some (seqObj "list" a e) ∧ JN m us ks v s1) E s
  done : ∀ us ks (s : Shared) a e (E : Value → Shared → Prop), J n us ks s → s.heap.get? S = some (seqObj "list" a e) → wpAny (model prog w) A (pyNext (.ref I)) (fun r s1 => r = none ∧ s1.heap.get? S = some (seqObj "list" a e) ∧ JD us ks s1) E s
  key : ∀ m us ks v (s : Shared) a e (E : Value → Shared → Prop), m < n → JN m us ks v s → s.heap.get? S = some (seqObj "list" a e) → wpAny (model prog w) A (call (.ref f) [v]) (fun k s1 => s1.heap.get? S = some (seqObj "list" a e) ∧ J (m + 1) (us ++ [v]) (ks ++ [k]) s1) E s
  cmp : ∀ m us ks (s : Shared) i j ki kj (Q : Value → Shared → Prop) (E : Value → Shared → Prop), J m us ks s → ks[i]? = some ki → ks[j]? = some kj → Q (.bool (bt i j)) s → wpAny (model prog w) A (richCompare op ki kj) Q E s
  updD : ∀ us ks (s : Shared) a e g, JD us ks s → s.heap.get? S = some (seqObj "list" a e) → JD us ks { s with heap := s.heap.update S (Obj.mapSeq g) }
  upd : ∀ m us ks (s : Shared) a e g, J m us ks s → s.heap.get? S = some (seqObj "list" a e) → J m us ks { s with heap := s.heap.update S (Obj.mapSeq g) }
variable {prog : Program} {w : World} {A : Around} {R : Result → Shared → Prop} {I S f : Addr} {n : Nat} {bt : Nat → Nat → Bool} {J : Nat → List Value → List Value → Shared → Prop} {JN : Nat → List Value → List Value → Value → Shared → Prop} {JD : List Value → List Value → Shared → Prop}
theorem snoc_old {α : Type} {l : List α} {i : Nat} {x y : α} (h : l[i]? = some x) : (l ++ [y])[i]? = some x := by
  rw [List.getElem?_append_left (List.getElem?_eq_some_iff.mp h).1]; exact h
theorem snoc_new {α : Type} {l : List α} {i : Nat} {y : α} (h : l.length = i) : (l ++ [y])[i]? = some y := by
  subst h; simp
theorem max_loopJ (K : KLoop prog w A.in1 .Gt I S f n J JN JD bt) (kw : List (Str × Value)) (n0 : 0 < n) : ∀ (k m : Nat) (s : Shared) (us ks : List Value) (a : Array Value) (e : Nat), n - m = k → m ≤ n → J m us ks s → s.heap.get? S = some (seqObj "list" a e) →
    (m = 0 ∧ a = #[] ∨ ∃ j vb kb, m = j + 1 ∧ a = #[vb, kb] ∧ us[argBest bt j]? = some vb ∧ ks[argBest bt j]? = some kb) →
    (∀ v us ks s', JD us ks s' → us[argBest bt (n - 1)]? = some v → R (.ok (.ret v)) s') → codeAny (model prog w) A (.builtin "max.loop" ⟨[.ref I, .ref f, .ref S], kw⟩) R s := by
  have hname : (toString "max" ++ toString ".loop" : String) = "max.loop" := by decide
  intro k
  induction k with
  | zero =>
    intro m s us ks a e hk hm hJ hS hb hR
    obtain rfl : m = n := by omega
    rcases hb with ⟨h0, _⟩ | ⟨j, vb, kb, rfl, rfl, h1, h2⟩
    · omega
    refine codeAny_builtin PySem.F.entry_max_loop ?_
    rw [Around.under_plainId PySem.F.plain_max_loop _]
    show wpAny _ A.in1 (seqItems? (.ref S) >>= _) _ _ s
    refine wpAny_bind (wpAny_seqItems hS rfl ?_)
    show wpAny _ A.in1 (tryCatch (pyNext (.ref I)) _ >>= _) _ _ s
    refine wpAny_bind (wpAny_tryCatch (wpAny_mono (K.done us ks s _ _ (fun _ _ => False) hJ hS) (fun r s1 ⟨e1, hS1, hJ1⟩ => ?_) fun _ _ z => z.elim))
    subst e1
    show wpAny _ A.in1 (updateSeq S (fun _ => #[]) >>= _) _ _ _
    refine wpAny_bind ?_
    refine wpAny_updateSeq hS1 rfl (wpAny_bind (wpAny_letGo (wpAny_pure ?_)))
    exact hR vb us ks _ (K.updD _ _ _ _ _ _ hJ1 hS1) h1
  | succ k ih =>
    intro m s us ks a e hk hm hJ hS hb hR
    have hlt : m < n := by omega
    have hl := K.len _ _ _ _ hJ
    refine codeAny_builtin PySem.F.entry_max_loop ?_
    rw [Around.under_plainId PySem.F.plain_max_loop _]
    show wpAny _ A.in1 (seqItems? (.ref S) >>= _) _ _ s
    refine wpAny_bind (wpAny_seqItems hS rfl ?_)
    show wpAny _ A.in1 (tryCatch (pyNext (.ref I)) _ >>= _) _ _ s
    refine wpAny_bind (wpAny_tryCatch (wpAny_mono (K.next m us ks s _ _ (fun _ _ => False) hlt hJ hS) (fun r s1 ⟨v, e1, hS1, hJ1⟩ => ?_) fun _ _ z => z.elim))
    subst e1
    rcases hb with ⟨rfl, rfl⟩ | ⟨j, vb, kb, rfl, rfl, h1, h2⟩
    · show wpAny _ A.in1 (tryCatch (holding [v] (call (.ref f) [v])) _ >>= _) _ _ _
      refine wpAny_bind (wpAny_tryCatch (wpAny_holding (wpAny_mono (K.key 0 us ks v s1 _ _ (fun _ _ => False) hlt hJ1 hS1) (fun kx s2 ⟨hS2, hJ2⟩ => ?_) fun _ _ z => z.elim)))
      show wpAny _ A.in1 (updateSeq S (fun _ => #[v, kx]) >>= _) _ _ _
      refine wpAny_bind ?_
      refine wpAny_updateSeq hS2 rfl ?_
      rw [hname]
      exact wpAny_pure ⟨plainId_quiet PySem.F.plain_max_loop _, ih 1 _ (us ++ [v]) (ks ++ [kx]) #[v, kx] _ (by omega) hlt (K.upd _ _ _ _ _ _ _ hJ2 hS2) (get?_update_seq hS2 _) (.inr ⟨0, v, kx, rfl, rfl, snoc_new hl.1, snoc_new hl.2⟩) hR⟩
    · show wpAny _ A.in1 (tryCatch (holding [v] (call (.ref f) [v])) _ >>= _) _ _ _
      refine wpAny_bind (wpAny_tryCatch (wpAny_holding (wpAny_mono (K.key (j + 1) us ks v s1 _ _ (fun _ _ => False) hlt hJ1 hS1) (fun kx s2 ⟨hS2, hJ2⟩ => ?_) fun _ _ z => z.elim)))
      show wpAny _ A.in1 (tryCatch (holding [v, kx] (richCompare .Gt kx kb >>= _)) _ >>= _) _ _ _
      refine wpAny_bind (wpAny_tryCatch (wpAny_holding (wpAny_bind (K.cmp _ _ _ s2 (j + 1) (argBest bt j) kx kb _ _ hJ2 (snoc_new hl.2) (snoc_old h2) ?_))))
      refine wpAny_bind (wpAny_holding (wpAny_truthy_bool ?_))
      refine wpAny_bind (wpAny_letGo (wpAny_pure ?_))
      cases hb : bt (j + 1) (argBest bt j) with
      | true =>
        simp only [if_true]
        refine wpAny_bind ?_
        refine wpAny_updateSeq hS2 rfl (wpAny_bind (wpAny_letGo ?_))
        rw [hname]
        exact wpAny_pure ⟨plainId_quiet PySem.F.plain_max_loop _, ih (j + 1 + 1) _ (us ++ [v]) (ks ++ [kx]) #[v, kx] _ (by omega) hlt (K.upd _ _ _ _ _ _ _ hJ2 hS2) (get?_update_seq hS2 _)
          (.inr ⟨j + 1, v, kx, rfl, rfl, by simp only [argBest, hb, if_true]; exact snoc_new hl.1, by simp only [argBest, hb, if_true]; exact snoc_new hl.2⟩) hR⟩
      | false =>
        simp only [Bool.false_eq_true, if_false]
        refine wpAny_bind (wpAny_letGo ?_)
        rw [hname]
        exact wpAny_pure ⟨plainId_quiet PySem.F.plain_max_loop _, ih (j + 1 + 1) _ (us ++ [v]) (ks ++ [kx]) #[vb, kb] _ (by omega) hlt hJ2 hS2
          (.inr ⟨j + 1, vb, kb, rfl, rfl, by simp only [argBest, hb, Bool.false_eq_true, if_false]; exact snoc_old h1, by simp only [argBest, hb, Bool.false_eq_true, if_false]; exact snoc_old h2⟩) hR⟩
theorem call_maxJ {E : Value → Shared → Prop} {s : Shared} {x : Value} {q : Addr} {Q : Value → Shared → Prop}
    (h : wpAny (model prog w) A.in1 (pyIter x) (fun it s₂ => ∃ I n J JN JD bt, it = .ref I ∧ 0 < n ∧ KLoop prog w A.in1 .Gt I s₂.heap.objs.size q n J JN JD bt ∧ J 0 [] [] { s₂ with heap := s₂.heap.push { cls := .type "list", data := .seq #[] 0 } } ∧ ∀ v us ks s', JD us ks s' → us[argBest bt (n - 1)]? = some v → Q v s') E s) :
    wpAny (model prog w) A (call (.builtin "max") [x] [(Str.ofString "key", .ref q)]) Q E s := by
  have hname : (toString "max" ++ toString ".loop" : String) = "max.loop" := by decide
  refine PyProof.Rows.kmk_tree PySem.F.kind_max PySem.F.plain_max PySem.F.entry_max (PyProof.Rows.kmk_max_key _ _) ?_
  show wpAny _ A.in1 (Builtin.Builtins.bindParams "max" ["key", "default"] 0 ⟨[], [(Str.ofString "key", .ref q)]⟩ >>= _) _ _ s
  refine wpAny_bind (wpAny_of_eq (show Builtin.Builtins.bindParams "max" ["key", "default"] 0 ⟨[], [(Str.ofString "key", .ref q)]⟩ = pure [some (.ref q), none] from rfl) ?_)
  refine wpAny_bind (wpAny_pure ?_)
  refine wpAny_bind (wpAny_mono h (fun it s₂ h₂ => ?_) fun _ _ e => e)
  obtain ⟨I, n, J, JN, JD, bt, rfl, hn, K, hJ, hQ⟩ := h₂
  refine wpAny_bind (wpAny_newObj_type ?_)
  rw [hname]
  exact wpAny_pure ⟨plainId_quiet PySem.F.plain_max_loop _, max_loopJ K _ hn _ 0 _ [] [] #[] 0 rfl (Nat.zero_le _) hJ (Heap.get?_push_size _ rfl) (.inl ⟨rfl, rfl⟩) hQ⟩
theorem min_loopJ (K : KLoop prog w A.in1 .Lt I S f n J JN JD bt) (kw : List (Str × Value)) (n0 : 0 < n) : ∀ (k m : Nat) (s : Shared) (us ks : List Value) (a : Array Value) (e : Nat), n - m = k → m ≤ n → J m us ks s → s.heap.get? S = some (seqObj "list" a e) →
    (m = 0 ∧ a = #[] ∨ ∃ j vb kb, m = j + 1 ∧ a = #[vb, kb] ∧ us[argBest bt j]? = some vb ∧ ks[argBest bt j]? = some kb) →
    (∀ v us ks s', JD us ks s' → us[argBest bt (n - 1)]? = some v → R (.ok (.ret v)) s') → codeAny (model prog w) A (.builtin "min.loop" ⟨[.ref I, .ref f, .ref S], kw⟩) R s := by
  have hname : (toString "min" ++ toString ".loop" : String) = "min.loop" := by decide
  intro k
  induction k with
  | zero =>
    intro m s us ks a e hk hm hJ hS hb hR
    obtain rfl : m = n := by omega
    rcases hb with ⟨h0, _⟩ | ⟨j, vb, kb, rfl, rfl, h1, h2⟩
    · omega
    refine codeAny_builtin PySem.F.entry_min_loop ?_
    rw [Around.under_plainId PySem.F.plain_min_loop _]
    show wpAny _ A.in1 (seqItems? (.ref S) >>= _) _ _ s
    refine wpAny_bind (wpAny_seqItems hS rfl ?_)
    show wpAny _ A.in1 (tryCatch (pyNext (.ref I)) _ >>= _) _ _ s
    refine wpAny_bind (wpAny_tryCatch (wpAny_mono (K.done us ks s _ _ (fun _ _ => False) hJ hS) (fun r s1 ⟨e1, hS1, hJ1⟩ => ?_) fun _ _ z => z.elim))
    subst e1
    show wpAny _ A.in1 (updateSeq S (fun _ => #[]) >>= _) _ _ _
    refine wpAny_bind ?_
    refine wpAny_updateSeq hS1 rfl (wpAny_bind (wpAny_letGo (wpAny_pure ?_)))
    exact hR vb us ks _ (K.updD _ _ _ _ _ _ hJ1 hS1) h1
  | succ k ih =>
    intro m s us ks a e hk hm hJ hS hb hR
    have hlt : m < n := by omega
    have hl := K.len _ _ _ _ hJ
    refine codeAny_builtin PySem.F.entry_min_loop ?_
    rw [Around.under_plainId PySem.F.plain_min_loop _]
    show wpAny _ A.in1 (seqItems? (.ref S) >>= _) _ _ s
    refine wpAny_bind (wpAny_seqItems hS rfl ?_)
    show wpAny _ A.in1 (tryCatch (pyNext (.ref I)) _ >>= _) _ _ s
    refine wpAny_bind (wpAny_tryCatch (wpAny_mono (K.next m us ks s _ _ (fun _ _ => False) hlt hJ hS) (fun r s1 ⟨v, e1, hS1, hJ1⟩ => ?_) fun _ _ z => z.elim))
    subst e1
    rcases hb with ⟨rfl, rfl⟩ | ⟨j, vb, kb, rfl, rfl, h1, h2⟩
    · show wpAny _ A.in1 (tryCatch (holding [v] (call (.ref f) [v])) _ >>= _) _ _ _
      refine wpAny_bind (wpAny_tryCatch (wpAny_holding (wpAny_mono (K.key 0 us ks v s1 _ _ (fun _ _ => False) hlt hJ1 hS1) (fun kx s2 ⟨hS2, hJ2⟩ => ?_) fun _ _ z => z.elim)))
      show wpAny _ A.in1 (updateSeq S (fun _ => #[v, kx]) >>= _) _ _ _
      refine wpAny_bind ?_
      refine wpAny_updateSeq hS2 rfl ?_
      rw [hname]
      exact wpAny_pure ⟨plainId_quiet PySem.F.plain_min_loop _, ih 1 _ (us ++ [v]) (ks ++ [kx]) #[v, kx] _ (by omega) hlt (K.upd _ _ _ _ _ _ _ hJ2 hS2) (get?_update_seq hS2 _) (.inr ⟨0, v, kx, rfl, rfl, snoc_new hl.1, snoc_new hl.2⟩) hR⟩
    · show wpAny _ A.in1 (tryCatch (holding [v] (call (.ref f) [v])) _ >>= _) _ _ _
      refine wpAny_bind (wpAny_tryCatch (wpAny_holding (wpAny_mono (K.key (j + 1) us ks v s1 _ _ (fun _ _ => False) hlt hJ1 hS1) (fun kx s2 ⟨hS2, hJ2⟩ => ?_) fun _ _ z => z.elim)))
      show wpAny _ A.in1 (tryCatch (holding [v, kx] (richCompare .Lt kx kb >>= _)) _ >>= _) _ _ _
      refine wpAny_bind (wpAny_tryCatch (wpAny_holding (wpAny_bind (K.cmp _ _ _ s2 (j + 1) (argBest bt j) kx kb _ _ hJ2 (snoc_new hl.2) (snoc_old h2) ?_))))
      refine wpAny_bind (wpAny_holding (wpAny_truthy_bool ?_))
      refine wpAny_bind (wpAny_letGo (wpAny_pure ?_))
      cases hb : bt (j + 1) (argBest bt j) with
      | true =>
        simp only [if_true]
        refine wpAny_bind ?_
        refine wpAny_updateSeq hS2 rfl (wpAny_bind (wpAny_letGo ?_))
        rw [hname]
        exact wpAny_pure ⟨plainId_quiet PySem.F.plain_min_loop _, ih (j + 1 + 1) _ (us ++ [v]) (ks ++ [kx]) #[v, kx] _ (by omega) hlt (K.upd _ _ _ _ _ _ _ hJ2 hS2) (get?_update_seq hS2 _)
          (.inr ⟨j + 1, v, kx, rfl, rfl, by simp only [argBest, hb, if_true]; exact snoc_new hl.1, by simp only [argBest, hb, if_true]; exact snoc_new hl.2⟩) hR⟩
      | false =>
        simp only [Bool.false_eq_true, if_false]
        refine wpAny_bind (wpAny_letGo ?_)
        rw [hname]
        exact wpAny_pure ⟨plainId_quiet PySem.F.plain_min_loop _, ih (j + 1 + 1) _ (us ++ [v]) (ks ++ [kx]) #[vb, kb] _ (by omega) hlt hJ2 hS2
          (.inr ⟨j + 1, vb, kb, rfl, rfl, by simp only [argBest, hb, Bool.false_eq_true, if_false]; exact snoc_old h1, by simp only [argBest, hb, Bool.false_eq_true, if_false]; exact snoc_old h2⟩) hR⟩
theorem call_minJ {E : Value → Shared → Prop} {s : Shared} {x : Value} {q : Addr} {Q : Value → Shared → Prop}
    (h : wpAny (model prog w) A.in1 (pyIter x) (fun it s₂ => ∃ I n J JN JD bt, it = .ref I ∧ 0 < n ∧ KLoop prog w A.in1 .Lt I s₂.heap.objs.size q n J JN JD bt ∧ J 0 [] [] { s₂ with heap := s₂.heap.push { cls := .type "list", data := .seq #[] 0 } } ∧ ∀ v us ks s', JD us ks s' → us[argBest bt (n - 1)]? = some v → Q v s') E s) :
    wpAny (model prog w) A (call (.builtin "min") [x] [(Str.ofString "key", .ref q)]) Q E s := by
  have hname : (toString "min" ++ toString ".loop" : String) = "min.loop" := by decide
  refine PyProof.Rows.kmk_tree PySem.F.kind_min PySem.F.plain_min PySem.F.entry_min (PyProof.Rows.kmk_min_key _ _) ?_
  show wpAny _ A.in1 (Builtin.Builtins.bindParams "min" ["key", "default"] 0 ⟨[], [(Str.ofString "key", .ref q)]⟩ >>= _) _ _ s
  refine wpAny_bind (wpAny_of_eq (show Builtin.Builtins.bindParams "min" ["key", "default"] 0 ⟨[], [(Str.ofString "key", .ref q)]⟩ = pure [some (.ref q), none] from rfl) ?_)
  refine wpAny_bind (wpAny_pure ?_)
  refine wpAny_bind (wpAny_mono h (fun it s₂ h₂ => ?_) fun _ _ e => e)
  obtain ⟨I, n, J, JN, JD, bt, rfl, hn, K, hJ, hQ⟩ := h₂
  refine wpAny_bind (wpAny_newObj_type ?_)
  rw [hname]
  exact wpAny_pure ⟨plainId_quiet PySem.F.plain_min_loop _, min_loopJ K _ hn _ 0 _ [] [] #[] 0 rfl (Nat.zero_le _) hJ (Heap.get?_push_size _ rfl) (.inl ⟨rfl, rfl⟩) hQ⟩
end
section
variable {p : Prg} {n : Nat} {S : Sx} {γ : Gt}
theorem lcLoop_pre {vs : List Nat} {f : PV → M (Option PV)} : ∀ {xs acc : List PV} {s s' : Ev.Env} {ks : List PV}, lcLoop vs f xs acc s = .ok ks s' → ∃ r, ks = acc ++ r
  | [], acc, s, s', ks, h => by
    obtain ⟨rfl, rfl⟩ := pure_inv h
    exact ⟨[], (List.append_nil _).symm⟩
  | x :: xs, acc, s, s', ks, h => by
    obtain ⟨ro, t1, f1, v1⟩ := bind_inv h
    obtain ⟨_, t2, f2, v2⟩ := bind_inv v1
    obtain ⟨r, e⟩ := lcLoop_pre v2
    cases ro with
    | none => exact ⟨r, e⟩
    | some v => exact ⟨v :: r, by rw [e]; simp⟩
/-- two keys are compared, each known by itself -/
theorem cmp_two {prog : Program} {w : World} {A : Around} {s : Shared} {ks : List PV} {i j : Nat} {da db : PV} {ki kj : Value} {as bs : List Addr} {Q : Value → Shared → Prop} {E : Value → Shared → Prop} (mx : Bool) (hso : sortable ks = true) (hu : A.units + 60 < cLine)
    (h1 : ks[i]? = some da) (h2 : ks[j]? = some db) (ra : Reads s.heap ki da as) (rb : Reads s.heap kj db bs) (hq : Q (.bool (btK mx ks i j)) s) : wpAny (model prog w) A (richCompare (if mx then .Gt else .Lt) ki kj) Q E s := by
  obtain ⟨hal, hsrt, hdep, hpl⟩ := sortable_parts hso
  have m1 := List.mem_of_getElem? h1
  have m2 := List.mem_of_getElem? h2
  have ga : ks.getD i .none = da := by rw [List.getD_eq_getElem?_getD, h1]; rfl
  have gb : ks.getD j .none = db := by rw [List.getD_eq_getElem?_getD, h2]; rfl
  have nn : da ≠ .none := by
    rcases hsrt with h | h
    · obtain ⟨x, r, e⟩ := h da m1
      intro z; rw [z] at e; cases e
    · exact (h da m1).1
  have hd : A.units + min da.depth db.depth < cLine := by
    have := hdep da m1
    have := Nat.min_le_left da.depth db.depth
    omega
  unfold btK at hq
  rw [ga, gb] at hq
  cases mx with
  | true => exact PySem.W.rcGt_alike da db A s ki kj as bs ra rb (hal da m1 db m2) nn hd prog w E Q hq
  | false => exact PySem.W.rcLt_alike da db A s ki kj as bs ra rb (hal da m1 db m2) nn hd prog w E Q hq
theorem best_core {X : Cx} (c : XC p γ n S X) {pins : List (Addr × Obj)} {σ : L2.St} {H1 : Hp} {s1 : Shared} {B : Bs} {F1 : Hp} {t0 t1 : Ev.Env} {i : Nat} {z : Str} {key : E} {xs ks : List PV} {la : Addr} {vs : List V} {d : PV} {Q : VK}
    {ps : Arguments} {b : Expr} {ls : Scope} {lp kp pos : Pos} (mx : Bool) (hkey : ∀ S, SE p γ n S key) (hlam : S.lam = true) (hi : S.N[i]? = some z) (hps : lamPs1 z ps = true) (hsb : lamSB1 X.env.scope ls z = true) (hck : chk { S with lam := false, gd := false } ls key b = true)
    (I1 : Inv X pins σ H1 s1) (en : EnvR X.K γ B F1 H1 σ t0) (ha : Rd F1 la (.lst vs)) (ra : RpAll X.K F1 vs xs)
    (hloop : lcAll [i] (keyTurn (p.cf n) i key) xs t0 = .ok (.own (.list ks)) t1) (hb : bestOf mx ks xs = some d)
    (kk : ∀ v H' F', Sub F1 F' → EnvR X.K γ B F' H' σ t1 → Rp X.K F' v d → Q v H') :
    wpAny (model X.prog X.w) X.A (evalAll ((backToKw pos (keywordEach [⟨some "key", .Lambda ps b ls lp, kp⟩] X.env)).map (·.2))) (fun kvs s2 => wpAny (model X.prog X.w) X.A (call (.builtin (if mx then "max" else "min")) [.ref la] ([(Str.ofString "key" : Str)].zip kvs)) (EP X pins σ Q) X.xe s2) X.xe s1 := by
  obtain ⟨cc, P, l1, l2, l3, l4⟩ := c.lam hlam
  have L := lamS1_by hsb
  have hiX : X.N[i]? = some z := by rw [c.hN]; exact hi
  unfold bestOf at hb
  split at hb
  case isFalse => cases hb
  rename_i hcond
  simp only [Bool.and_eq_true, decide_eq_true_eq] at hcond
  obtain ⟨⟨hso, hlen⟩, hz⟩ := hcond
  obtain ⟨hal, hsrt, hdep, hpl⟩ := sortable_parts hso
  have hbi : argBest (btK mx ks) (ks.length - 1) < xs.length := (List.getElem?_eq_some_iff.mp hb).1
  -- the loop
  unfold lcAll at hloop
  obtain ⟨acc, se, w4, w5⟩ := RE.andThen_inv hloop
  injection w5 with e4 e5
  injection e4 with e4
  injection e4 with e4
  have e4 := e4.symm
  subst e4
  obtain ⟨_, s4, w6, w7⟩ := bind_inv w4
  obtain ⟨hh, rfl⟩ := hideM_inv w6
  show wpAny _ _ (evalAll ((do let v ← eval (.Lambda ps b ls lp) X.env; standAt pos; pure v) :: (backToKw pos (keywordEach [] X.env)).map (·.2))) _ _ s1
  refine wpAny_evalAll_cons (wpAny_bind (LamX.lam_make2 I1 l2 l1 l3 l4 en.tab (lam_dflt1 hps) (L.has I1.ok) fun f c' pm ctv H2 s2 I2 eN T2 hf hfn hfr hco => ?_))
  refine wpAny_bind (wpAny_standAt (wpAny_pure ?_))
  refine wpAny_evalAll_nil ?_
  show wpAny (model X.prog X.w) X.A (call (.builtin (if mx then "max" else "min")) [.ref la] [(Str.ofString "key", .ref f)]) _ _ s2
  have en2 : EnvR X.K γ B F1 H2 σ t0 := en.ext eN T2
  obtain ⟨B', en3, back⟩ := en2.note hco
  have fL : f ∉ X.fs := fun hb => hfr (by
    unfold frs
    rcases I2.ok.stk with e | ⟨e, hF⟩
    · rw [e]; exact hb
    · rw [e]
      rw [List.filterMap_cons, hF]
      exact List.mem_cons_of_mem _ hb)
  have fne : f ≠ X.env.locals := fun e => by
    obtain ⟨m, ⟨o', es, ep, ho', hd', _⟩, _⟩ := I2.loc
    rw [← e, hf] at ho'
    cases ho'
    cases hd'
  generalize hfo : PySem.W.kla_obj "<lambda>" (X.env.qual ++ "<lambda>") ps b ls (cloFrom X.env.cells ls.names []) pm c' ctv = fo at hf
  have fdat : ∀ v, fo.data ≠ .cell v := fun v h => by rw [← hfo] at h; cases h
  have I3 : Inv X (pins ++ [(f, fo)]) σ H2 s2 := I2.pins_of fun q hq => (List.mem_append.mp hq).elim (fun z => I2.pin q (List.mem_append_right _ z)) fun z => by
    have e : q = (f, fo) := by simpa using z
    subst e
    exact ⟨hf, hfn, fne, fL, fdat⟩
  have hcalm : X.A.handled = none := I2.ok.hd c.calm
  obtain ⟨_, its0, n0, _, _, hl0⟩ := lstR I3 (Rd.sub en2.fh ha)
  have hL0 : s2.heap.IsList la its0.toArray := ⟨_, hl0, rfl, n0, rfl⟩
  have hvl : vs.length = xs.length := ra.length
  -- the iterator and the loop's own list
  generalize hit0 : s2.heap.objs.size = it
  have oI : OwnAt X (pins ++ [(f, fo)]) it := OwnAt.of I3 (Nat.le_of_eq hit0)
  have nI2 : H2 it = none := I3.hok.fresh (Nat.le_of_eq hit0)
  generalize hK0 : s2.heap.push { cls := .type "list_iterator", data := .fields #[.ref la, .int 0 0] } = hp2
  generalize hS0 : hp2.objs.size = sl
  have hsl : sl = it + 1 := by rw [← hS0, ← hK0, size_push', hit0]
  have oS : OwnAt X (pins ++ [(f, fo)]) sl := OwnAt.of I3 (by rw [hsl, hit0]; exact Nat.le_succ _)
  have nS2 : H2 sl = none := I3.hok.fresh (by rw [hsl, hit0]; exact Nat.le_succ _)
  have hne : sl ≠ it := by omega
  have hi0 : ∃ y, t0[i]? = some y ∧ hideable y = true := by
    have := List.all_eq_true.mp hh i (by simp)
    cases hy : t0[i]? with
    | none => rw [hy] at this; cases this
    | some y => rw [hy] at this; exact ⟨y, rfl, this⟩
  obtain ⟨y0, hy0, hyd⟩ := hi0
  have nio : isIo y0 = false := by cases y0 <;> first | rfl | cases hyd
  have hitl : i < t0.length := (List.getElem?_eq_some_iff.mp hy0).1
  have hdat : ∀ (kA : Array Value) (e : Nat) (v : Option Value), (seqObj "list" kA e).data ≠ .cell v := fun kA e v z => by cases z
  let J1 : Nat → List Value → List Value → Shared → Prop := fun m us vs' s' => ∃ H F se2 acc2, Inv X (pins ++ [(f, fo)]) σ H s' ∧ EnvR X.K γ B' F H σ se2 ∧ Sub F1 F ∧ H it = none ∧ H sl = none ∧ se2[i]? = some .emp ∧ W.EachIs (ItemR X.K F) us (xs.take m) ∧ W.EachIs (ItemR X.K F) vs' acc2 ∧
    lcLoop [i] (keyTurn (p.cf n) i key) (xs.drop m) acc2 se2 = .ok ks se ∧ us.length = m ∧ vs'.length = m
  have KL : KLoop X.prog X.w X.A.in1 (if mx then .Gt else .Lt) it sl f xs.length (fun m us ks' s' => J1 m us ks' s' ∧ s'.heap.IsListIter it la m) (fun m us ks' v s' => (J1 m us ks' s' ∧ s'.heap.IsListIter it la (m + 1)) ∧ ∃ d, xs[m]? = some d ∧ ∀ F, Sub F1 F → ItemR X.K F v d) (J1 xs.length) (btK mx ks) := by
    refine ⟨?len, ?next, ?done, ?key, ?cmp, ?updD, ?upd⟩
    case len =>
      rintro m us ks' s' ⟨⟨H, F, se2, acc2, I, er, sub, n1, n2, he, hu, hk, hl, z1, z2⟩, st⟩
      exact ⟨z1, z2⟩
    case upd =>
      rintro m us ks' s' a e g ⟨⟨H, F, se2, acc2, I, er, sub, n1, n2, he, hu, hk, hl, z1, z2⟩, st⟩ hS
      have sb := Heap.SameBut.update s'.heap sl (Obj.mapSeq g)
      exact ⟨⟨H, F, se2, acc2, I.turned (t' := s'.toks) (it := sl) (fun b o hb q => (sb.2 b hb).trans q) n2 oS.loc (.inr oS.s0) oS.cell oS.pin, er, sub, n1, n2, he, hu, hk, hl, z1, z2⟩, st.at fun o q => (sb.2 it (Ne.symm hne)).trans q⟩
    case updD =>
      rintro us ks' s' a e g ⟨H, F, se2, acc2, I, er, sub, n1, n2, he, hu, hk, hl, z1, z2⟩ hS
      have sb := Heap.SameBut.update s'.heap sl (Obj.mapSeq g)
      exact ⟨H, F, se2, acc2, I.turned (t' := s'.toks) (it := sl) (fun b o hb q => (sb.2 b hb).trans q) n2 oS.loc (.inr oS.s0) oS.cell oS.pin, er, sub, n1, n2, he, hu, hk, hl, z1, z2⟩
    case next =>
      rintro m us ks' s' a e E hm ⟨⟨H, F, se2, acc2, I, er, sub, n1, n2, he, hu, hk, hl, z1, z2⟩, st⟩ hS
      obtain ⟨_, its, n3, rv, hl3, e3⟩ := lstR I (Rd.sub (sub.trans er.fh) ha)
      have hmv : m < vs.length := by rw [hvl]; exact hm
      obtain ⟨u, hu1, ru⟩ := rv.get (List.getElem?_eq_getElem hmv)
      obtain ⟨dm, hd1, hd2⟩ := ra.getV (List.getElem?_eq_getElem hmv)
      refine wpAny_pyNext_list_item st ⟨_, e3, rfl, n3, rfl⟩ (x := u) (by simpa using hu1) fun h' st' sb => ?_
      exact ⟨u, rfl, (sb.2 sl hne).trans hS, ⟨⟨H, F, se2, acc2, I.turned (t' := s'.toks) (it := it) (fun b o hb q => (sb.2 b hb).trans q) n1 oI.loc (.inr oI.s0) oI.cell oI.pin, er, sub, n1, n2, he, hu, hk, hl, z1, z2⟩, st'⟩, dm, hd1, fun F' s5 => ⟨_, ru, Rp.sub s5 hd2⟩⟩
    case done =>
      rintro us ks' s' a e E ⟨⟨H, F, se2, acc2, I, er, sub, n1, n2, he, hu, hk, hl, z1, z2⟩, st⟩ hS
      obtain ⟨_, its, n3, rv, hl3, e3⟩ := lstR I (Rd.sub (sub.trans er.fh) ha)
      refine wpAny_pyNext_list_end (A := X.A.in1) hcalm st ⟨_, e3, rfl, n3, rfl⟩ (by simp; omega) fun h' eb => ?_
      refine ⟨rfl, eb sl _ hne hS, H, F, se2, acc2, I.turned (t' := s'.toks) (it := it) (fun b o hb q => eb b o hb q) n1 oI.loc (.inr oI.s0) oI.cell oI.pin, er, sub, n1, n2, he, hu, hk, hl, z1, z2⟩
    case cmp =>
      rintro m us ks' s' j1 j2 ki kj Q E ⟨⟨H, F, se2, acc2, I, er, sub, n1, n2, he, hu, hk, hl, z1, z2⟩, st⟩ h1 h2 hq
      obtain ⟨r, er2⟩ := lcLoop_pre hl
      obtain ⟨da, g1, va, r1, r2⟩ := each_at hk h1
      obtain ⟨db, g2, vb, r3, r4⟩ := each_at hk h2
      have g1' : ks[j1]? = some da := by rw [er2, List.getElem?_append_left (List.getElem?_eq_some_iff.mp g1).1]; exact g1
      have g2' : ks[j2]? = some db := by rw [er2, List.getElem?_append_left (List.getElem?_eq_some_iff.mp g2).1]; exact g2
      obtain ⟨as, ra'⟩ := Dp.reads I da va ki ((Rp.sub er.fh r2).dp (hpl da (List.mem_of_getElem? g1'))) r1
      obtain ⟨bs, rb'⟩ := Dp.reads I db vb kj ((Rp.sub er.fh r4).dp (hpl db (List.mem_of_getElem? g2'))) r3
      have hu := c.u
      exact cmp_two mx hso (by show X.A.units + 1 + 60 < cLine; omega) g1' g2' ra' rb' hq
    case key =>
      rintro m us ks' v s' a e E hm ⟨⟨⟨H, F, se2, acc2, I, er, sub, n1, n2, he, hu, hk, hl, z1, z2⟩, st⟩, d, hd, hv⟩ hS
      obtain ⟨xv, rv, rp⟩ := hv F sub
      rw [drop_cons hd] at hl
      obtain ⟨ro, t1', f1, v1⟩ := bind_inv hl
      obtain ⟨_, t2', f2, v2⟩ := bind_inv v1
      obtain ⟨hh2, rfl⟩ := hideM_inv f2
      obtain ⟨_, t3, f3, v3⟩ := bind_inv f1
      obtain ⟨r1, t5, f5, v5⟩ := bind_inv v3
      obtain ⟨dv, t6, f6, v6⟩ := bind_inv v5
      obtain ⟨rfl, rfl⟩ := pure_inv v6
      have et := fz_same f6
      subst et
      have f3 : store i (.frz d) se2 = .ok () t3 := by simpa only [bindT] using f3
      obtain ⟨y1, hy1, ny1, ⟨d', e1', rfl⟩ | ⟨d', e1', rfl⟩⟩ := store_inv f3
      case inr => cases e1'
      cases e1'
      obtain ⟨oit, hoit, cit, dit⟩ := st
      have I4 := OwnAt.pinned (pins := pins ++ [(f, fo)]) oS I hS n2 (hdat _ _)
      have oI2 : OwnAt X (pins ++ [(f, fo)] ++ [(sl, seqObj "list" a e)]) it := ⟨oI.s0, oI.loc, oI.cell, fun q hq => by
        rcases List.mem_append.mp hq with q1 | q1
        · exact oI.pin q (List.mem_append_left _ q1)
        · rcases List.mem_append.mp q1 with q1 | q1
          · exact oI.pin q (List.mem_append_right _ q1)
          · have e : q = (sl, seqObj "list" a e) := by simpa using q1
            rw [e]
            exact hne⟩
      have I5 := oI2.pinned I4 hoit n1 (fun v z => by rw [dit] at z; cases z)
      have hfo' : s'.heap.get? f = some (PySem.W.kla_obj "<lambda>" (X.env.qual ++ "<lambda>") ps b ls (cloFrom X.env.cells ls.names []) pm c' ctv) := by
        rw [hfo]
        exact (I.pin (f, fo) (by simp)).1
      obtain ⟨_, hcH⟩ := back er sub
      obtain ⟨hcc, _, _⟩ := I5.hok c' _ hcH
      have hput : EnvR X.K γ B' F H (σ.set i (some xv)) (se2.set i (.frz d)) := er.putFrz hy1 ny1 rp
      have hr : Room (5 * n + 1) X.A.in1 := (show Room (5 * n + 2) X.A.in1 from ((c.roomL hlam).mono (show 5 * n + 3 ≤ 5 * n + 4 by omega)).in1).mono (by omega)
      refine wpAny_mono (lam_call1 (A := X.A.in1) (q := "") (tb := tU X.K γ (p.cf n) key) (Q := fun kv H6 => ∃ F6, Sub F F6 ∧ EnvR X.K γ B' F6 H6 (σ.set i (some xv)) t1' ∧ Rp X.K F6 kv dv) I5 L c.nd hiX rv hfo' hcc (lam_bind1 hps) hr I5.env0.in1
        (fun hr' => hkey _ _ b (XC.lamc c hr') hck) (tU_good f5 hput fun y H6 F6 q6 e6 ry => ?_)) (fun u s6 hu6 => ?_) fun _ _ z => z.elim
      · obtain ⟨_, rdv⟩ := fz_ok ry f6
        exact ⟨F6, q6, e6, rdv⟩
      · obtain ⟨kv, H6, I6, ru, F6, sub6, e6, rk⟩ := hu6
        obtain ⟨p1, p2, _⟩ := I6.pin (sl, seqObj "list" a e) (by simp)
        obtain ⟨p3, p4, _⟩ := I6.pin (it, oit) (by simp)
        have ht : xs.take (m + 1) = xs.take m ++ [d] := by rw [List.take_succ, hd]; rfl
        refine ⟨p1, ⟨H6, F6, hide [i] t1', acc2 ++ [dv], I6.unpinned.unpinned, ?_, sub.trans sub6, p4, p2, ?_, ?_, ?_, v2, by simp [z1], by simp [z2]⟩, ⟨oit, p3, cit, dit⟩⟩
        · have hi5 := List.all_eq_true.mp hh2 i (by simp)
          cases hy : t1'[i]? with
          | none => rw [hy] at hi5; cases hi5
          | some y5 =>
            rw [hy] at hi5
            have n5 : isIo y5 = false := by cases y5 <;> first | rfl | cases hi5
            exact e6.put (σ' := σ) (x := .emp) hy n5 (by simp) (fun j' hj' => (List.getElem?_set_ne (Ne.symm hj')).symm) trivial rfl
        · exact hide_emp hh2 i (by simp)
        · rw [ht]
          exact each_snoc (each_mono hu fun _ _ _ h => ItemR.sub sub6 h) ⟨xv, rv, Rp.sub sub6 rp⟩
        · exact each_snoc (each_mono hk fun _ _ _ h => ItemR.sub sub6 h) ⟨kv, ru, rk⟩
  have J00 : ∀ a e, J1 0 [] [] { s2 with heap := hp2.push (seqObj "list" a e) } ∧ (hp2.push (seqObj "list" a e)).IsListIter it la 0 := fun a e =>
    ⟨⟨H2, F1, t0.set i .emp, [], I3.kept (t' := s2.toks) (fun b o q => Heap.get?_push_of_some _ (by rw [← hK0]; exact Heap.get?_push_of_some _ q)), en3.putEmp hy0 nio, Sub.refl F1, nI2, nS2, List.getElem?_set_self hitl, .nil, .nil, by rw [List.drop_zero]; exact w7, rfl, rfl⟩,
      ⟨_, Heap.get?_push_of_some _ (by rw [← hK0, ← hit0]; exact Heap.get?_push_size _ rfl), rfl, rfl⟩⟩
  have fin : ∀ v us ks' s', J1 xs.length us ks' s' → us[argBest (btK mx ks) (xs.length - 1)]? = some v → EP X pins σ Q v s' := by
    rintro v us ks' s' ⟨H, F, se2, acc2, I, er, sub, n1, n2, he, hu, hk, hl, z1, z2⟩ hv
    rw [List.drop_length] at hl
    obtain ⟨rfl, rfl⟩ := pure_inv hl
    rw [List.take_length] at hu
    rw [← hlen] at hv
    obtain ⟨d', g1, xv, rv, rp⟩ := each_at hu hv
    rw [hb] at g1
    cases g1
    obtain ⟨er2, _⟩ := back er sub
    have e5' : EnvR X.K γ B F H σ (restore [i] t0 se) := by
      refine er2.restored [i] rfl (fun _ _ => rfl) (fun j hj => ?_) fun j hj => ?_
      · have e : j = i := by simpa using hj
        subst e
        exact ⟨.emp, he, rfl⟩
      · have e : j = i := by simpa using hj
        subst e
        refine ⟨y0, hy0, hyd, ?_⟩
        have w := en.slot j y0 hy0
        cases y0 with
        | emp => trivial
        | frz d => obtain ⟨v, w1, w2⟩ := w; exact ⟨v, w1, Rp.sub sub w2⟩
        | own d => cases hyd
        | io d => cases hyd
        | fn f => cases hyd
    rw [e5] at e5'
    exact ⟨xv, H, I.unpinned, rv, kk xv H F sub e5' rp⟩
  have npos : 0 < xs.length := by omega
  cases mx with
  | true =>
    refine call_maxJ (wpAny_pyIter_list hL0 ?_)
    rw [hit0, hK0]
    exact ⟨it, xs.length, _, _, _, _, rfl, npos, by rw [show ({ s2 with heap := hp2 } : Shared).heap.objs.size = sl from hS0]; exact KL, J00 _ _, fin⟩
  | false =>
    refine call_minJ (wpAny_pyIter_list hL0 ?_)
    rw [hit0, hK0]
    exact ⟨it, xs.length, _, _, _, _, rfl, npos, by rw [show ({ s2 with heap := hp2 } : Shared).heap.objs.size = sl from hS0]; exact KL, J00 _ _, fin⟩
theorem boot_max' : bootBuiltins "max" = some (.builtin "max") := by decide +kernel
theorem boot_min' : bootBuiltins "min" = some (.builtin "min") := by decide +kernel
theorem se_bestK {mx : Bool} {i : Nat} {key e : E} (hkey : ∀ S, SE p γ n S key) (he : SE p γ n S e) : SE p γ n S (.bestK mx i key e) := fun X x c h => by
  simp only [chk] at h
  split at h
  case h_2 => cases h
  rename_i f pf y nm ps b ls lp kp pos
  simp only [Bool.and_eq_true, decide_eq_true_eq] at h
  obtain ⟨⟨⟨⟨⟨⟨⟨hlam, rfl⟩, rfl⟩, hg⟩, hns⟩, hpar⟩, hck⟩, hit⟩ := h
  split at hpar
  case h_2 => cases hpar
  rename_i z hz
  rw [Bool.and_eq_true] at hpar
  obtain ⟨hps, hsb⟩ := hpar
  refine ⟨fun pins s σ H Q I q => ?_⟩
  obtain ⟨B, s0, r0, s', hv, F, en, kk⟩ := q
  obtain ⟨r1, t1, g1, w1⟩ := bind_inv hv
  obtain ⟨d0, t2, g2, w2⟩ := bind_inv w1
  obtain ⟨xs, t3, g3, w3⟩ := bind_inv w2
  obtain ⟨g3', e3⟩ := opt_inv g3
  obtain ⟨rk, t4, g4, w4⟩ := bind_inv w3
  obtain ⟨w4', e4⟩ := opt_inv w4
  have e2 : t2 = t1 := fz_same g2
  subst e2
  subst e3
  subst e4
  have g4 : lcAll [i] (keyTurn (p.cf n) i key) xs t3 = .ok rk s' := g4
  unfold bestOp at w4'
  split at w4'
  case h_2 => cases w4'
  rename_i ks
  obtain ⟨d, hb, rfl⟩ := Option.map_eq_some_iff.mp w4'
  have run : ∀ {g : String}, g = (if mx then "max" else "min") → wpAny (model X.prog X.w) X.A (PySem.callWith pos (.builtin g) [] (backTo pos (starEach [y] X.env)) (backToKw pos (keywordEach [⟨some "key", .Lambda ps b ls lp, kp⟩] X.env))) (EP X pins σ Q) X.xe s := by
    intro g hgn
    subst hgn
    refine PyProof.Rows.callWith_kw ?_ (by rw [star_cons hns]; rfl) (star_plain (by rw [List.all_cons, hns]; rfl)) rfl rfl
    rw [star_cons hns]
    show wpAny _ _ (spliced ((false, eval y X.env) :: backTo pos (starEach [] X.env))) _ _ s
    refine Calls.spliced_cons (thn ((he X y c hit).run pins s σ H (fun v H1 => ∃ F1, Sub F F1 ∧ EnvR X.K γ B F1 H1 σ t3 ∧ Rp X.K F1 v d0) I (tU_good g1 en fun v H1 F1 q1 e1 rv => ?_)) fun u s1 hu => Calls.spliced_nil ?_)
    · obtain ⟨_, rd⟩ := fz_ok rv g2
      exact ⟨F1, q1, e1, rd⟩
    · obtain ⟨v, H1, I1, ru, F1, q1, e1, rp⟩ := hu
      cases rp with
      | lst ha ra =>
        cases g3'
        cases ru
        exact best_core (pos := pos) (lp := lp) (kp := kp) (Q := Q) c mx hkey hlam hz hps hsb hck I1 e1 ha ra g4 hb fun v H' F' q2 e2 r2 => kk v H' F' (q1.trans q2) e2 r2
      | _ => cases g3'
  cases mx with
  | true => exact wpAny_Call_Name_kw (ld_blt I (gloB_ok rfl hg) (c.blt _ (by decide +kernel)) boot_max' (run rfl) (by decide) (by decide))
  | false => exact wpAny_Call_Name_kw (ld_blt I (gloB_ok rfl hg) (c.blt _ (by decide +kernel)) boot_min' (run rfl) (by decide) (by decide))
end
end Ev

/-! EvU: a name gets a dict comprehension; a dict comprehension of several clauses over nothing. -/
namespace Ev
open PySem PySem.Spec PyProof.Rows L2
section
variable {X : Cx}
theorem sw_trueD {kx vx : Expr} {gs : List Comprehension} {scope : Scope} {pos py : Pos} {y : Str} {l : Nat} {env : PySem.Env} (hk : env.scope.kind = .function) (hy : env.scope.names.lookup y = some .local) (hl : (py.line == pos.line) = true)
    (ha : (scope.names.any fun (n, k) => n == y && (k == .local || k == .cell)) = false) : swapsWith (.DictComp kx vx gs scope pos) (some (.Name y py)) l env = pure true := by
  have ky : env.kindOf y = some .local := hy
  have hb : env.blockKind = .function := by unfold Env.blockKind; rw [hk]; rfl
  unfold swapsWith
  simp only [hb, ky, ha, Expr.pos, hl]
  rfl
/-- what follows when a block's value goes straight to a name -/
theorem set_post {pins : List (Addr × Obj)} {σ : L2.St} {H : Hp} {s : Shared} {i : Nat} {y : Str} {py : Pos} {L C : Addr} {m : Str → Option Value} {D : Ends} (hN : X.N.Nodup) (hy : X.N[i]? = some y) (hyl : X.env.scope.names.lookup y = some .local) (I : Inv X pins σ H s)
    (q : gName i (.ref L) σ H D.nx) (hn : s.heap.Ns C m) (f : FpOk X pins H C) : compPost (model X.prog X.w) X.A X.xe (some (assign (.Name y py) X.env)) (fun _ s' => SP X pins D .next s') (.ref L) C (.ok .next) s := by
  show wpAny _ _ (assign (.Name y py) X.env (.ref L)) _ _ _
  refine wpAny_assign_Name (store_ok2 (v := V.ref L) I hN hy (.inl hyl) rfl (fun s2 I2 ⟨a, sb, ha⟩ => ?_) (.inr hyl))
  obtain ⟨f0, f1, f2, f3, f4, f5⟩ := f
  have haC : C ≠ a := by
    rcases ha with z | z
    · rw [z]; exact f1
    · exact fun e => f4 y a z e.symm
  refine ⟨m, hn.sameBut sb haC, fun h3 sb3 => ?_⟩
  exact ⟨_, H, I2.turned (t' := s2.toks) (fun b o hb e => (sb3.2 b hb).trans e) f0 f1 f3 f4 f5, q⟩
theorem ps_setDc {i : Nat} {y : Str} {py : Pos} {kx vx tg iter : Expr} {ifs : List Expr} {scope : Scope} {own : List (Str × Nat)} {pos spos : Pos} {wi : TI} {g : TG} {tt : TT} {tk tv : TE} (hc : X.calm = true) (hN : X.N.Nodup) (hy : X.N[i]? = some y) (hyl : X.env.scope.names.lookup y = some .local)
    (hsw : swapsWith (.DictComp kx vx [⟨tg, iter, ifs, 0⟩] scope pos) (some (.Name y py)) spos.line X.env = pure true) (hi : PI X tg iter wi) (ok : BlkOk X.N X.env.scope scope own)
    (hg : ∀ (s : Shared) (H : Hp) (C : Addr) (cl : List (Str × Addr)) (fp : List Addr), PG (X.blk s H scope (compEnvC scope cl C X.env) fp) tg g) (ht : ∀ (s : Shared) (H : Hp) (C : Addr) (cl : List (Str × Addr)) (fp : List Addr), PTs (X.blk s H scope (compEnvC scope cl C X.env) fp) ifs tt)
    (hk : ∀ (s : Shared) (H : Hp) (C : Addr) (cl : List (Str × Addr)) (fp : List Addr), PE (X.blk s H scope (compEnvC scope cl C X.env) fp) kx tk)
    (he : ∀ (s : Shared) (H : Hp) (C : Addr) (cl : List (Str × Addr)) (fp : List Addr), PE (X.blk s H scope (compEnvC scope cl C X.env) fp) vx tv) (hs : ∀ x, foldedSetIterable iter X.env x = pure x) :
    PS X (.Assign [.Name y py] (.DictComp kx vx [⟨tg, iter, ifs, 0⟩] scope pos) spos) (tAsg (tDc wi g tt tk tv (own.map (·.2))) (gName i)) := by
  refine ⟨fun pins s σ H D I h => ?_⟩
  rw [exec_Assign_Name_used _ _ _ _ hsw]
  refine wpAny_bind (wpAny_standAt (wpAny_bind ?_))
  show wpAny _ X.A (do let _ ← comprehension (.DictComp kx vx [⟨tg, iter, ifs, 0⟩] scope pos) scope X.env (firstIterPos [⟨tg, iter, ifs, 0⟩] pos) newDict false (eval iter X.env) (some (assign (.Name y py) X.env))) _ _ s
  have h : tDc wi g tt tk tv (own.map (·.2)) σ H (fun x H1 => gName i x σ H1 D.nx) := h
  exact wpAny_bind (thn (dc_core (Qf := fun _ s' => SP X pins D .next s') hc hN I hi ok hg ht hk he hs h fun L C s' m H' I' q hn f => set_post hN hy hyl I' q hn f) fun _ s' hq => wpAny_pure (wpAny_pure hq))
/-! ### several clauses, nothing to walk -/
theorem compTurnE (kx vx target iter : Expr) (ifs : List Expr) (rest : List Comprehension) (scope : Scope) (pos : Pos) (it : Value) (D : Addr) (env : PySem.Env) :
    ∃ k : Value → Sem _, compTurn (.DictComp kx vx (⟨target, iter, ifs, 0⟩ :: rest) scope pos) 0 it (.ref D) env = (do
      standAt iter.pos
      match ← pyNext it with
      | none => pure (.done .next)
      | some v => k v) := ⟨_, rfl⟩
theorem compLoop_stopD {prog : Program} {w : World} {A : Around} {R : Result → Shared → Prop} {s : Shared} {kx vx target iter : Expr} {ifs : List Expr} {rest : List Comprehension} {scope : Scope} {pos : Pos} {it : Value} {D : Addr} {env : PySem.Env}
    (h : wpAny (model prog w) A (pyNext it) (fun r s1 => r = none ∧ R (.ok .next) s1) (fun _ _ => False) s) : codeAny (model prog w) A (.compLoop (.DictComp kx vx (⟨target, iter, ifs, 0⟩ :: rest) scope pos) 0 it (.ref D) env) R s := by
  refine codeAny_loop rfl (fun _ s' => s' = s) (fun n s' hI => ?_) 0 rfl
  subst hI
  show wpAny _ A ((compTurn (.DictComp kx vx (⟨target, iter, ifs, 0⟩ :: rest) scope pos) 0 it (.ref D) env).onRaise (fun x => do noteFrame x env; theTreesLotGoes x)) _ _ s'
  refine wpAny_noted ?_
  obtain ⟨k, hk⟩ := compTurnE kx vx target iter ifs rest scope pos it D env
  rw [hk]
  refine wpAny_bind (wpAny_standAt (wpAny_bind (wpAny_mono h (fun r s₁ h₁ => ?_) fun _ _ h' => h'.elim)))
  obtain ⟨rfl, h₁⟩ := h₁
  exact wpAny_pure h₁
def tDcE (wi : TI) (vs : List Nat) : TE := fun σ H Q => wi σ H fun J H1 => ∀ D, H1 D = none → J.stop 0 (upd H1 D (.dK [])) ∧ Q (.ref D) (upd H1 D (.dK []))
theorem dcE_core {pins : List (Addr × Obj)} {s : Shared} {σ : L2.St} {H : Hp} {Q : VK} {kx vx tg iter : Expr} {ifs : List Expr} {rest : List Comprehension} {scope : Scope} {own : List (Str × Nat)} {pos pos' : Pos} {wi : TI} {use : Option (Value → Sem Unit)} {Qf : Value → Shared → Prop}
    (hc : X.calm = true) (hN : X.N.Nodup) (I : Inv X pins σ H s) (hi : PI X tg iter wi) (ok : BlkOk X.N X.env.scope scope own) (hs : ∀ x, foldedSetIterable iter X.env x = pure x)
    (h : tDcE wi (own.map (·.2)) σ H Q)
    (hRR : ∀ D C s' m H', Inv X pins σ H' s' → Q (.ref D) H' → s'.heap.Ns C m → FpOk X pins H' C → compPost (model X.prog X.w) X.A X.xe use Qf (.ref D) C (.ok .next) s') :
    wpAny (model X.prog X.w) X.A (comprehension (.DictComp kx vx (⟨tg, iter, ifs, 0⟩ :: rest) scope pos) scope X.env pos' newDict false (eval iter X.env) use) Qf X.xe s := by
  have hfree : ∀ y ∈ scope.names, y.2 = .free → ∃ c, X.env.cells.lookup y.1 = some c := fun y hy e => by
    rcases ok.free y hy e with k | k
    · exact I.ok.has _ (.inl k)
    · exact I.ok.has _ (.inr k)
  refine wpAny_comprehension_free (use := use) rfl hs (closure_ok hfree) ok.kind (fun y hy e => by rw [ok.uniq y hy, e])
    (thn (hi.run pins s σ H _ I h) fun xv s1 hx => thn hx fun itv s2 h2 => ?_)
  obtain ⟨it, fp, tn, J, H2, rfl, I2, T, st2, f2, q⟩ := h2
  refine wpAny_newObj_type (newEnv_comp ?_)
  generalize hD : s2.heap.objs.size = D
  have hDn : H2 D = none := I2.hok.fresh (Nat.le_of_eq hD)
  generalize hs3 : ({ s2 with heap := s2.heap.push { cls := .type "dict", data := .dict #[] } } : Shared) = s3
  have I3 : Inv X pins σ (upd H2 D (.dK [])) s3 := by
    rw [← hs3]
    refine I2.laid (t' := s2.toks) (fun b o e => Heap.get?_push_of_some _ e) (Nat.le_of_eq hD) ?_
    rw [← hD]
    exact dk_empty s2.heap I2.big
  have h3 : s3.heap = s2.heap.push { cls := .type "dict", data := .dict #[] } := by rw [← hs3]
  have f3 : ∀ b ∈ fp, FpOk X pins (upd H2 D (.dK [])) b ∧ b < s3.heap.objs.size := fun b hb => by
    obtain ⟨o, e, _⟩ := T.obj _ _ st2 b hb
    have hlt := Heap.lt_size e
    refine ⟨⟨?_, (f2 b hb).2⟩, by rw [h3, Heap.size_push]; exact Nat.lt_succ_of_lt hlt⟩
    rw [upd_ne (by rw [← hD]; exact Nat.ne_of_lt hlt)]
    exact (f2 b hb).1
  have st3 : tn 0 s3.heap := T.keep _ _ _ st2 fun b _ o e => by rw [h3]; exact Heap.get?_push_of_some _ e
  have I4 := block_start I3 ok hN f3
  generalize hH3 : upd H2 D (.dK []) = H3 at I3 I4 f3
  have nfp : ∀ b ∈ fp, H3 b = none := fun b hb => (f3 b hb).1.1
  have stop3 : J.stop 0 H3 := by rw [← hH3]; exact (q D hDn).1
  have qq : Q (.ref D) H3 := by rw [← hH3]; exact (q D hDn).2
  show codeAny _ _ (.compStart (.DictComp kx vx (⟨tg, iter, ifs, 0⟩ :: rest) scope pos) 0 (.ref it) (.ref D) (compEnvC scope (cellsFrom (s3.heap.objs.size + 1) scope.names (cloFrom X.env.cells scope.names [])) s3.heap.objs.size X.env)) (compPost (model X.prog X.w) X.A X.xe use Qf (.ref D) s3.heap.objs.size) { s3 with heap := pushCells (s3.heap.push { cls := .type "dict", data := .dict #[] }) scope.names }
  generalize hce : compEnvC scope (cellsFrom (s3.heap.objs.size + 1) scope.names (cloFrom X.env.cells scope.names [])) s3.heap.objs.size X.env = ce at I4 ⊢
  have cL : ce.locals = s3.heap.objs.size := by subst hce; rfl
  generalize hs4 : ({ s3 with heap := pushCells (s3.heap.push { cls := .type "dict", data := .dict #[] }) scope.names } : Shared) = s4 at I4 ⊢
  have st4 : tn 0 s4.heap := T.keep _ _ _ st3 fun b _ o e => by rw [← hs4]; exact pushCells_keeps _ _ _ _ (Heap.get?_push_of_some _ e)
  have loop : codeAny (model X.prog X.w) X.A (.compLoop (.DictComp kx vx (⟨tg, iter, ifs, 0⟩ :: rest) scope pos) 0 (.ref it) (.ref D) ce) (compPost (model X.prog X.w) X.A X.xe use Qf (.ref D) s3.heap.objs.size) s4 := by
    have td := T.done (X.blk s3 H3 scope ce fp) rfl rfl rfl hc 0 [] s4 _ H3 (fun _ _ => False) I4
      (fun b hb => ⟨nfp b hb, (I4.ok.exf b hb).1, I4.ok.exfs b hb, .inl hb, fun x c e => (I4.ok.exf b hb).2 x c e, fun p hp => absurd (show p ∈ ([] : List (Addr × Obj)) ++ [] from hp) (by simp)⟩) st4 stop3
    refine compLoop_stopD (wpAny_mono td (fun r s6 ⟨hr, I6⟩ => ⟨hr, ?_⟩) fun _ _ z => z)
    have I7 : Inv X pins σ H3 s6 := I3.call' (ch := fp) I6.os I6.base I6.hok I6.bare fun b hb => ⟨(f3 b hb).1.2.2.2.1, (f3 b hb).1.2.1, (f3 b hb).1.2.2.2.2.1, (f3 b hb).1.2.2.2.2.2⟩
    have nC : H3 s3.heap.objs.size = none := by
      have z : H3 ce.locals = none := I6.free
      rw [cL] at z
      exact z
    obtain ⟨m, hn, _⟩ := I6.loc
    have hn : s6.heap.Ns ce.locals m := hn
    rw [cL] at hn
    exact hRR D s3.heap.objs.size s6 m H3 I7 qq hn (I3.fpOk (Nat.le_refl _) nC)
  exact codeAny_compStart_dict loop (T.self X.A 0 _ _ _ st4 loop)
theorem pe_dcE {kx vx tg iter : Expr} {ifs : List Expr} {rest : List Comprehension} {scope : Scope} {own : List (Str × Nat)} {pos : Pos} {wi : TI} (hc : X.calm = true) (hN : X.N.Nodup) (hi : PI X tg iter wi) (ok : BlkOk X.N X.env.scope scope own) (hs : ∀ x, foldedSetIterable iter X.env x = pure x) :
    PE X (.DictComp kx vx (⟨tg, iter, ifs, 0⟩ :: rest) scope pos) (tDcE wi (own.map (·.2))) := by
  refine ⟨fun pins s σ H Q I h => ?_⟩
  rw [arm_eval_DictComp]
  refine dcE_core hc hN I hi ok hs h fun D C s' m H' I' q hn f => ⟨m, hn, fun h'' sb => ?_⟩
  obtain ⟨f0, f1, f2, f3, f4, f5⟩ := f
  exact ⟨.ref D, H', I'.turned (t' := s'.toks) (fun b o hb e => (sb.2 b hb).trans e) f0 f1 f3 f4 f5, rfl, q⟩
theorem ps_setDcE {i : Nat} {y : Str} {py : Pos} {kx vx tg iter : Expr} {ifs : List Expr} {rest : List Comprehension} {scope : Scope} {own : List (Str × Nat)} {pos spos : Pos} {wi : TI} (hc : X.calm = true) (hN : X.N.Nodup) (hy : X.N[i]? = some y) (hyl : X.env.scope.names.lookup y = some .local)
    (hsw : swapsWith (.DictComp kx vx (⟨tg, iter, ifs, 0⟩ :: rest) scope pos) (some (.Name y py)) spos.line X.env = pure true) (hi : PI X tg iter wi) (ok : BlkOk X.N X.env.scope scope own) (hs : ∀ x, foldedSetIterable iter X.env x = pure x) :
    PS X (.Assign [.Name y py] (.DictComp kx vx (⟨tg, iter, ifs, 0⟩ :: rest) scope pos) spos) (tAsg (tDcE wi (own.map (·.2))) (gName i)) := by
  refine ⟨fun pins s σ H D I h => ?_⟩
  rw [exec_Assign_Name_used _ _ _ _ hsw]
  refine wpAny_bind (wpAny_standAt (wpAny_bind ?_))
  show wpAny _ X.A (do let _ ← comprehension (.DictComp kx vx (⟨tg, iter, ifs, 0⟩ :: rest) scope pos) scope X.env (firstIterPos (⟨tg, iter, ifs, 0⟩ :: rest) pos) newDict false (eval iter X.env) (some (assign (.Name y py) X.env))) _ _ s
  have h : tDcE wi (own.map (·.2)) σ H (fun x H1 => gName i x σ H1 D.nx) := h
  exact wpAny_bind (thn (dcE_core (Qf := fun _ s' => SP X pins D .next s') hc hN I hi ok hs h fun L C s' m H' I' q hn f => set_post hN hy hyl I' q hn f) fun _ s' hq => wpAny_pure (wpAny_pure hq))
end
section
variable {p : Prg} {n : Nat} {S : Sx} {γ : Gt}
def DcE (p : Prg) (γ : Gt) (n : Nat) (X : Cx) (own : List (Str × Nat)) (k : ItK) (its : List E) (x : Expr) : Prop :=
  ∃ (kx vx tg' it' : Expr) (ifs' : List Expr) (rest : List Comprehension) (scope : Scope) (pos : Pos) (wi : TI), x = .DictComp kx vx (⟨tg', it', ifs', 0⟩ :: rest) scope pos ∧ PI X tg' it' wi ∧ BlkOk X.N X.env.scope scope own ∧ notSet it' = true ∧
    ∀ σ H Q, tU X.K γ (p.cf n) (.dcE own k its) σ H Q → tDcE wi (own.map (·.2)) σ H Q
theorem dcE_parts {own : List (Str × Nat)} {k : ItK} {its : List E} (hits : ∀ e ∈ its, SE p γ n S e) (hitss : SEs p γ n S its) {X : Cx} {x : Expr} (c : XC p γ n S X) (h : chk S X.env.scope (.dcE own k its) x = true) : DcE p γ n X own k its x := by
  simp only [chk] at h
  split at h
  case h_2 => cases h
  rename_i kx vx tg' it' ifs' a rest scope pos
  simp only [Bool.and_eq_true, decide_eq_true_eq] at h
  obtain ⟨⟨⟨rfl, h1⟩, h7⟩, h8⟩ := h
  split at h8
  case h_2 => cases h8
  rename_i ys hy
  have wi := si_all (k := k) hits hitss c hy h8
  refine ⟨kx, vx, tg', it', ifs', rest, scope, pos, tUI X.K γ (p.cf n) k its, rfl, wi, by rw [c.hN]; exact blkOk_by h1, h7, fun σ H Q q => ?_⟩
  obtain ⟨B, s, r0, s', hv, F, en, kk⟩ := q
  obtain ⟨rs, s1, g1, w1⟩ := bind_inv hv
  obtain ⟨ds, s2, g2, w2⟩ := bind_inv w1
  obtain ⟨xs, s3, g3, w3⟩ := bind_inv w2
  obtain ⟨g3', e3⟩ := opt_inv g3
  have e2 : s2 = s1 := fzs_same g2
  subst e2
  subst e3
  cases xs with
  | cons x xs => cases w3
  | nil =>
    obtain ⟨rfl, rfl⟩ := pure_inv w3
    refine ⟨B, s, rs, _, ds, [], g1, g2, g3', F, en, fun J H1 F1 q1 e1 wd D hD => ?_⟩
    have g : Grow F1 H1 F1 (upd H1 D (.dK [])) := Grow.own e1.fh hD
    refine ⟨wd.stop _ g.fh, kk _ _ F1 q1 (e1.grow g) (ResR.rv e1 g ⟨D, rfl, hD, e1.fh.none hD, [], upd_same, .nil⟩)⟩
theorem se_dcE {own : List (Str × Nat)} {k : ItK} {its : List E} (hits : ∀ e ∈ its, SE p γ n S e) (hitss : SEs p γ n S its) : SE p γ n S (.dcE own k its) := fun X x c h => by
  obtain ⟨kx, vx, tg', it', ifs', rest, scope, pos, wi, rfl, h1, h2, h3, h4⟩ := dcE_parts hits hitss c h
  exact PE.imp (pe_dcE (own := own) c.calm c.nd h1 h2 (notSet_folded h3)) h4
end
end Ev

/-! Ev18: every expression. -/
namespace Ev
open PySem PySem.Spec L2
section
variable {p : Prg} {γ : Gt} {n : Nat} {S : Sx}
def PX (p : Prg) (γ : Gt) (n : Nat) (S : Sx) (e : E) : Prop := SE p γ n S e ∧ ST p γ n S e ∧ ∀ a, e = .star a → SE p γ n S a
theorem ses_of {es : List E} (h : ∀ e ∈ es, PX p γ n S e) : SEs p γ n S es := by
  induction es with
  | nil => exact ses_nil
  | cons e es ih => exact ses_cons (h e (by simp)).1 (ih fun x hx => h x (by simp [hx]))
theorem sea_of {es : List E} (h : ∀ e ∈ es, PX p γ n S e) : SEA p γ n S es := by
  induction es with
  | nil => exact sea_nil
  | cons e es ih =>
    have ih := ih fun x hx => h x (by simp [hx])
    have he := h e (by simp)
    by_cases hs : isStar e = false
    · exact sea_plain hs he.1 ih
    · cases e <;> first | exact absurd rfl hs | exact sea_star (he.2.2 _ rfl) ih
theorem px_plain {e : E} (h : SE p γ n S e) (hp : ∀ (X : Cx) (x : Expr), chk S X.env.scope e x = true → plainTest x = true) (hs : ∀ a, e = .star a → SE p γ n S a) : PX p γ n S e := ⟨h, st_of_se h hp, hs⟩
local macro_rules | `(tactic| trivial) => `(tactic| (intro X x h; simp only [chk] at h; split at h <;> first | rfl | cases h))
theorem no_star {e : E} (h : isStar e = false) : ∀ a, e = .star a → SE p γ n S a := by
  intro a ha
  rw [ha] at h
  cases h
mutual
theorem px : ∀ (e : E) (S : Sx), PX p γ n S e
  | .cint i, S => px_plain se_cint (by trivial) (no_star rfl)
  | .cbl b, S => px_plain se_cbl (by trivial) (no_star rfl)
  | .cnon, S => px_plain se_cnon (by trivial) (no_star rfl)
  | .cstr z, S => px_plain se_cstr (by trivial) (no_star rfl)
  | .var i, S => px_plain se_var (by trivial) (no_star rfl)
  | .mv i, S => px_plain se_mv (by trivial) (no_star rfl)
  | .peek i, S => px_plain se_peek (by trivial) (no_star rfl)
  | .glb g, S => px_plain se_glb (by trivial) (no_star rfl)
  | .bin op a b, S => px_plain (se_bin (px a S).1 (px b S).1) (by trivial) (no_star rfl)
  | .neg a, S => px_plain (se_neg (px a S).1) (by trivial) (no_star rfl)
  | .not a, S => ⟨se_not (px a S).1, st_not (px a S).2.1, no_star rfl⟩
  | .bop op es, S => ⟨se_bop fun e he => (pxs es S e he).1, st_bop fun e he => (pxs es S e he).2.1, no_star rfl⟩
  | .cmp op a b, S => ⟨se_cmp (px a S).1 (px b S).1, st_cmp (px a S).1 (px b S).1, no_star rfl⟩
  | .chain o1 o2 a b d, S => ⟨se_chain (px a S).1 (px b S).1 (px d S).1, st_chain (px a S).1 (px b S).1 (px d S).1, no_star rfl⟩
  | .ite t a b, S => ⟨se_ite (px t S).2.1 (px a S).1 (px b S).1, st_ite (px t S).2.1 (px a S).2.1 (px b S).2.1, no_star rfl⟩
  | .tup es, S => px_plain (se_tup (sea_of (pxs es S))) (by trivial) (no_star rfl)
  | .lst es, S => px_plain (se_lst (sea_of (pxs es S))) (by trivial) (no_star rfl)
  | .dct0, S => px_plain se_dct0 (by trivial) (no_star rfl)
  | .star e, S => ⟨fun X x c h => (by simp [chk] at h), fun X x c h => (by simp [chk] at h), fun a ha => (by cases ha; exact (px e S).1)⟩
  | .idx a i, S => px_plain (se_idx (px a S).1 (px i S).1) (by trivial) (no_star rfl)
  | .slcL a lo, S => px_plain (se_slcL (px a S).1 (px lo S).1) (by trivial) (no_star rfl)
  | .slcH a hi, S => px_plain (se_slcH (px a S).1 (px hi S).1) (by trivial) (no_star rfl)
  | .slcLH a lo hi, S => px_plain (se_slcLH (px a S).1 (px lo S).1 (px hi S).1) (by trivial) (no_star rfl)
  | .isi T a, S => px_plain (se_isi (px a S).1) (by trivial) (no_star rfl)
  | .blt b es, S => px_plain (se_blt (ses_of (pxs es S))) (by trivial) (no_star rfl)
  | .lrng es, S => px_plain (se_lrng fun e he => (pxs es S e he).1) (by trivial) (no_star rfl)
  | .mth m o es, S => px_plain (se_mth (px o S).1 (ses_of (pxs es S))) (by trivial) (no_star rfl)
  | .call f es, S => px_plain (se_call (ses_of (pxs es S))) (by trivial) (no_star rfl)
  | .callG f es, S => px_plain (se_callG (ses_of (pxs es S))) (by trivial) (no_star rfl)
  | .reprD e, S => px_plain (se_reprD (px e S).1) (by trivial) (no_star rfl)
  | .rev e, S => px_plain (se_rev (px e S).1) (by trivial) (no_star rfl)
  | .bk k a d, S => px_plain (se_bk (px a S).1 (px d S).1) (by trivial) (no_star rfl)
  | .disp1 k e, S => px_plain (se_disp1 (px k S).1 (px e S).1) (by trivial) (no_star rfl)
  | .inv a, S => px_plain (se_inv (px a S).1) (by trivial) (no_star rfl)
  | .lens e, S => px_plain (se_lens (px e S).1) (by trivial) (no_star rfl)
  | .callv i es, S => px_plain (se_callv (ses_of (pxs es S))) (by trivial) (no_star rfl)
  | .met m d f es, S => px_plain (se_met fun S => ses_of (pxs es S)) (by trivial) (no_star rfl)
  | .metv m d i es, S => px_plain (se_metv fun S => ses_of (pxs es S)) (by trivial) (no_star rfl)
  | .lc own elt tg k its ifs, S => px_plain (se_lc (px elt S).1 (fun e he => (pxs its S e he).1) (ses_of (pxs its S)) fun e he => (pxs ifs S e he).2.1) (by trivial) (no_star rfl)
  | .dc own ek el tg k its ifs, S => px_plain (se_dc (px ek S).1 (px el S).1 (fun e he => (pxs its S e he).1) (ses_of (pxs its S)) fun e he => (pxs ifs S e he).2.1) (by trivial) (no_star rfl)
  | .lc2 own elt tg k its ifs tg1 k1 its1 ifs1, S => px_plain (se_lc2 (px elt S).1 (fun e he => (pxs its S e he).1) (ses_of (pxs its S)) (fun e he => (pxs ifs S e he).2.1) (fun e he => (pxs its1 S e he).1) (ses_of (pxs its1 S)) fun e he => (pxs ifs1 S e he).2.1) (by trivial) (no_star rfl)
  | .sortK i key k its, S => px_plain (se_sortK (fun S => (px key S).1) fun e he => (pxs its S e he).1) (by trivial) (no_star rfl)
  | .bestK mx i key e, S => px_plain (se_bestK (fun S => (px key S).1) (px e S).1) (by trivial) (no_star rfl)
  | .dcE own k its, S => px_plain (se_dcE (fun e he => (pxs its S e he).1) (ses_of (pxs its S))) (by trivial) (no_star rfl)
theorem pxs : ∀ (es : List E) (S : Sx), ∀ e ∈ es, PX p γ n S e
  | [], S => fun e he => (by simp at he)
  | a :: es, S => fun e he => by
    rcases List.mem_cons.mp he with h | h
    · rw [h]; exact px a S
    · exact pxs es S e h
end
theorem se (e : E) : SE p γ n S e := (px e S).1
theorem st (e : E) : ST p γ n S e := (px e S).2.1
theorem ses (es : List E) : SEs p γ n S es := ses_of (pxs es S)
end
end Ev

/-! Ev19: statements: the check, small ones. -/
namespace Ev
open PySem PySem.Spec L2
section
variable {K : Frag} {γ : Gt} {B : Bs} {F H F' H' : Hp} {σ : L2.St} {s : Env}
/-- a name's own list is written -/
theorem EnvR.writeO (en : EnvR K γ B F H σ s) {i : Nat} {x : Slot} {a : Addr} {e : PV} {ob : HO} (hx : s[i]? = some x) (ox : isOwn x = true) (ha : σ[i]? = some (some (.ref a))) (r : OwnR K F (upd H a ob) a e) : EnvR K γ B F (upd H a ob) σ (s.set i (reSlot x e)) := by
  have hF : F a = none := by
    have w := en.slot i x hx
    cases x with
    | emp => cases ox
    | frz d => cases ox
    | fn f => cases ox
    | own d => obtain ⟨b, w1, w2, _⟩ := w; rw [ha] at w1; cases w1; exact w2
    | io d => obtain ⟨b, w1, _, w2, _⟩ := w; rw [ha] at w1; cases w1; exact w2
  have htab : LamX.Tabs γ.tb (upd H a ob) := by
    have w := en.slot i x hx
    cases x with
    | emp => cases ox
    | frz d => cases ox
    | fn f => cases ox
    | own d => obtain ⟨b, w1, _, _, w4⟩ := w; rw [ha] at w1; cases w1; exact Tabs.writeO en.tab w4
    | io d => obtain ⟨b, w1, _, _, w4⟩ := w; rw [ha] at w1; cases w1; exact Tabs.writeO en.tab w4
  have st : ∀ {b : Addr} {o : HO}, b ≠ a → H b = some o → upd H a ob b = some o := fun n h => by rw [upd_ne n]; exact h
  have hi : i < s.length := (List.getElem?_eq_some_iff.mp hx).1
  refine ⟨fun b o h => st (fun z => ?_) (en.fh b o h), by simp [en.len], fun j y h => ?_, fun j k y z b g1 g2 o1 o2 e1 e2 => ?_, fun p hp => ?_, fun p hp j y h oy => ?_, en.tmpN, fun p hp => ?_, fun b o h nl => st (fun z => ?_) (en.keep b o h nl), en.fnew, en.fold, htab, en.ftb⟩
  · rw [z, hF] at h; cases h
  · rcases set_get h with ⟨rfl, rfl, _⟩ | ⟨ne, h⟩
    · have w := en.slot j x hx
      cases x with
      | emp => cases ox
      | frz d => cases ox
      | fn f => cases ox
      | own d =>
        obtain ⟨b, w1, w2, w3, w4⟩ := w
        rw [ha] at w1; cases w1
        exact ⟨a, ha, w2, w3, r⟩
      | io d =>
        obtain ⟨b, w1, w2, w3, w4⟩ := w
        rw [ha] at w1; cases w1
        exact ⟨a, ha, w2, w3, r⟩
    · have w := en.slot j y h
      cases y with
      | emp => trivial
      | frz d => exact w
      | fn f => exact w
      | own d =>
        obtain ⟨b, w1, w2, w3, w4⟩ := w
        have nb : b ≠ a := fun z => ne (en.apart j i _ _ a h hx rfl ox (by rw [w1, z]) ha)
        exact ⟨b, w1, w2, w3, w4.stay (Sub.refl F) fun o ho => st nb ho⟩
      | io d =>
        obtain ⟨b, w1, w2, w3, w4⟩ := w
        have nb : b ≠ a := fun z => ne (en.apart j i _ _ a h hx rfl ox (by rw [w1, z]) ha)
        exact ⟨b, w1, w2, w3, w4.stay (Sub.refl F) fun o ho => st nb ho⟩
  · have fixy : ∀ {j : Nat} {y : Slot}, (s.set i (reSlot x e))[j]? = some y → isOwn y = true → ∃ y', s[j]? = some y' ∧ isOwn y' = true := fun {j y} h o => by
      rcases set_get h with ⟨rfl, rfl, _⟩ | ⟨ne, h⟩
      · exact ⟨x, hx, ox⟩
      · exact ⟨y, h, o⟩
    obtain ⟨y', g1', o1'⟩ := fixy g1 o1
    obtain ⟨z', g2', o2'⟩ := fixy g2 o2
    exact en.apart j k y' z' b g1' g2' o1' o2' e1 e2
  · obtain ⟨g1, g2, g3⟩ := en.tmp p hp
    have nb : p.1 ≠ a := fun z => en.tmpA p hp i x hx ox (by rw [ha, z])
    exact ⟨g1, g2, g3.stay (Sub.refl F) fun o ho => st nb ho⟩
  · rcases set_get h with ⟨rfl, rfl, _⟩ | ⟨ne, h⟩
    · exact en.tmpA p hp j x hx ox
    · exact en.tmpA p hp j y h oy
  · obtain ⟨d, g1, g2⟩ := en.lent p hp
    by_cases ee : p.1 = i
    · rw [ee, hx] at g1
      cases g1
      exact ⟨_, by rw [ee]; exact List.getElem?_set_self hi, g2⟩
    · exact ⟨d, by rw [List.getElem?_set_ne (Ne.symm ee)]; exact g1, g2⟩
  · -- kept: not lent, not our own
    rw [z] at h nl
    have w := en.slot i x hx
    cases x with
    | emp => cases ox
    | frz d => cases ox
    | fn f => cases ox
    | own d => obtain ⟨b, w1, w2, w3, _⟩ := w; rw [ha] at w1; cases w1; rw [w3] at h; cases h
    | io d => obtain ⟨b, w1, w2, _⟩ := w; rw [ha] at w1; cases w1; exact nl _ w2 rfl
theorem EnvR.write (en : EnvR K γ B F H σ s) {i : Nat} {x : Slot} {a : Addr} {es : List PV} {ys : List V} (hx : s[i]? = some x) (ox : isOwn x = true) (ha : σ[i]? = some (some (.ref a))) (r : RpAll K F ys es) : EnvR K γ B F (upd H a (.lst ys)) σ (s.set i (reSlot x (.list es))) :=
  en.writeO (e := .list es) hx ox ha ⟨ys, upd_same, r⟩
theorem ownVal_inv {i : Nat} {d : PV} {s' : Env} (h : ownVal i s = .ok d s') : s' = s ∧ ∃ x, s[i]? = some x ∧ isOwn x = true ∧ slotVal x = some d := by
  unfold ownVal at h
  split at h
  · rename_i v hs; cases h; exact ⟨rfl, _, hs, rfl, rfl⟩
  · rename_i v hs; cases h; exact ⟨rfl, _, hs, rfl, rfl⟩
  · cases h
theorem setSlot_inv {i : Nat} {d : PV} {s' : Env} {x : Slot} (hx : s[i]? = some x) (h : setSlot i d s = .ok () s') : s' = s.set i (reSlot x d) := by
  unfold setSlot at h
  split at h
  · rename_i v hs; rw [hx] at hs; cases hs; cases h; rfl
  · rename_i v hs; rw [hx] at hs; cases hs; cases h; rfl
  · cases h
/-- an own dict: where it stands -/
theorem EnvR.ownDct (en : EnvR K γ B F H σ s) {i : Nat} {x : Slot} {ds : List (PV × PV)} (hx : s[i]? = some x) (ox : isOwn x = true) (hd : slotVal x = some (.dict ds)) : ∃ a vs, σ[i]? = some (some (.ref a)) ∧ H a = some (.dK vs) ∧ RpKv K F vs ds := by
  have w := en.slot i x hx
  cases x with
  | emp => cases ox
  | frz d => cases ox
  | fn d => cases ox
  | own d =>
    cases hd
    obtain ⟨a, w1, _, _, vs, w4, w5⟩ := w
    exact ⟨a, vs, w1, w4, w5⟩
  | io d =>
    cases hd
    obtain ⟨a, w1, _, _, vs, w4, w5⟩ := w
    exact ⟨a, vs, w1, w4, w5⟩
theorem EnvR.writeD (en : EnvR K γ B F H σ s) {i : Nat} {x : Slot} {a : Addr} {es : List (PV × PV)} {ys : List (Key × V)} (hx : s[i]? = some x) (ox : isOwn x = true) (ha : σ[i]? = some (some (.ref a))) (r : RpKv K F ys es) : EnvR K γ B F (upd H a (.dK ys)) σ (s.set i (reSlot x (.dict es))) :=
  en.writeO (e := .dict es) hx ox ha ⟨ys, upd_same, r⟩
/-- an own list: where it stands -/
theorem EnvR.ownList (en : EnvR K γ B F H σ s) {i : Nat} {x : Slot} {ds : List PV} (hx : s[i]? = some x) (ox : isOwn x = true) (hd : slotVal x = some (.list ds)) : ∃ a vs, σ[i]? = some (some (.ref a)) ∧ H a = some (.lst vs) ∧ RpAll K F vs ds := by
  have w := en.slot i x hx
  cases x with
  | emp => cases ox
  | frz d => cases ox
  | fn d => cases ox
  | own d =>
    cases hd
    obtain ⟨a, w1, _, _, vs, w4, w5⟩ := w
    exact ⟨a, vs, w1, w4, w5⟩
  | io d =>
    cases hd
    obtain ⟨a, w1, _, _, vs, w4, w5⟩ := w
    exact ⟨a, vs, w1, w4, w5⟩
end

/-! ### the check -/
abbrev Stm := Ev.S
def notComp : Expr → Bool
  | .ListComp .. => false
  | .SetComp .. => false
  | .DictComp .. => false
  | _ => true
def notSD : Expr → Bool
  | .SetComp .. => false
  | _ => true
def notTup : Expr → Bool
  | .Tuple .. => false
  | _ => true
def swB (sc : Scope) (y : Str) (py : Pos) : Expr → Bool
  | .ListComp _ _ s pos => decide (sc.names.lookup y = some .local) && (py.line == pos.line) && !(s.names.any fun (n, k) => n == y && (k == .local || k == .cell))
  | .DictComp _ _ _ s pos => decide (sc.names.lookup y = some .local) && (py.line == pos.line) && !(s.names.any fun (n, k) => n == y && (k == .local || k == .cell))
  | _ => false
def isLc : E → Bool
  | .lc .. => true
  | .dc .. => true
  | .dcE .. => true
  | .lc2 .. => true
  | _ => false
def funK (sc : Scope) : Bool := decide (sc.kind = .function)
def augOk : Operator → Bool
  | .Add => true | .Sub => true | .Mult => true | .FloorDiv => true | .Mod => true | .BitOr => true
  | _ => false
def muNm : Mu → Str
  | .append => "append"
  | .extend => "extend"
def parB (S : Sx) (sc : Scope) (is : List Nat) (ts vs : List Expr) : Bool := match is, ts, vs with
  | [i, j], [.Name x px, .Name y py], [_, _] => decide (S.N[i]? = some x) && decide (S.N[j]? = some y) && decide (i ≠ j) && decide (x ≠ y) && decide (sc.names.lookup x = some .local) && decide (sc.names.lookup y = some .local) && (py.line == px.line) && !(vs.all (foldedForSure 8)) && !(vs.all (constantsAlone 8))
  | [i, j, l], [.Name x px, .Name y py, .Name z pz], [_, _, _] => decide (S.N[i]? = some x) && decide (S.N[j]? = some y) && decide (S.N[l]? = some z) && decide (i ≠ j) && decide (i ≠ l) && decide (j ≠ l) && decide (x ≠ y) && decide (x ≠ z) && decide (y ≠ z) && decide (sc.names.lookup x = some .local) && decide (sc.names.lookup y = some .local) && decide (sc.names.lookup z = some .local)
      && (py.line == px.line) && (pz.line == px.line) && !(vs.all (foldedForSure 8)) && !(vs.all (constantsAlone 8))
  | _, _, _ => false
def namesB (S : Sx) (sc : Scope) : List Nat → List Expr → Bool
  | [], xs => match xs with | [] => true | _ => false
  | i :: is, xs => match xs with
    | .Name y _ :: ys => decide (S.N[i]? = some y) && locB sc y && namesB S sc is ys
    | _ => false
/-- some target is no local name -/
def farN (sc : Scope) : Expr → Bool
  | .Name y _ => !(decide (sc.names.lookup y = some .local))
  | _ => true
def farTg (sc : Scope) : Expr → Bool
  | .Tuple ts _ _ => ts.any (farN sc)
  | _ => false
def tupVal : Expr → Bool
  | .Tuple vs _ _ => vs.all (foldedForSure 8)
  | _ => true
/-- names of defs -/
def chkFs (S : Sx) (sc : Scope) : List Nat → List Expr → Bool
  | [], xs => match xs with | [] => true | _ => false
  | f :: fs, xs => match xs with | .Name y _ :: ys => decide (S.fns[f]? = some y) && !S.gds.contains f && gloB sc y && plainName y && chkFs S sc fs ys | _ => false
/-- targets that are all subscripts -/
def chkSub (S : Sx) (sc : Scope) : List (Nat × E) → List Expr → Bool
  | [], xs => match xs with | [] => true | _ => false
  | t :: ts, xs => match xs with
    | .Subscript o ix _ :: ys => chk S sc (.peek t.1) o && chk S sc t.2 ix && notSlice ix && chkSub S sc ts ys
    | _ => false
mutual
def chkS (S : Sx) (sc : Scope) : Stm → Stmt → Bool
  | .pass, x => match x with
    | .Pass _ => true
    | .Expr (.Constant (.str _) _ _) _ => true
    | _ => false
  | .ex e, x => match x with | .Expr v _ => chk S sc e v && notComp v | _ => false
  | .asg t e, x => match x with
    | .Assign [tg] v _ => chk S sc e v && (match t with
      | .name i => match tg with
        | .Name y py => decide (S.N[i]? = some y) && locB sc y && notSD v && (!(swB sc y py v) || (isLc e && funK sc))
        | _ => false
      | .tup ts => chkT S sc (fun _ => true) (.tup ts) tg && (tupVal v || farTg sc tg))
    | _ => false
  | .par is es, x => match x with
    | .Assign [.Tuple ts _ _] (.Tuple vs _ _) _ => (parB S sc is ts vs || (namesB S sc is ts && ts.any (farN sc) && decide is.Nodup && decide (is.length ≤ 1000))) && chks S sc es vs && vs.all notStar && funK sc
    | _ => false
  | .aug i op e, x => match x with
    | .AugAssign (.Name y _) o v _ => decide (o = op) && augOk op && decide (S.N[i]? = some y) && locB sc y && chk S sc e v
    | _ => false
  | .augI i op k e, x => match x with
    | .AugAssign (.Subscript o ix _) o' v _ => decide (o' = op) && augOk op && chk S sc (.peek i) o && chk S sc k ix && chk S sc e v && notSlice ix
    | _ => false
  | .seti i k e, x => match x with
    | .Assign [.Subscript o ix _] v _ => chk S sc (.peek i) o && chk S sc k ix && chk S sc e v && notSlice ix
    | _ => false
  | .subs ts es, x => match x with
    | .Assign [.Tuple tgs _ _] v _ => chkSub S sc ts tgs && !ts.isEmpty && chk S sc (.tup es) v
    | _ => false
  | .subN a k i es, x => match x with
    | .Assign [.Tuple [.Subscript o ix _, tg] _ _] v _ => chk S sc (.peek a) o && chk S sc k ix && notSlice ix && chkT S sc (fun _ => true) (.name i) tg && chk S sc (.tup es) v
    | _ => false
  | .popA i j, x => match x with
    | .Assign [.Name y py] (.Call (.Attribute o nm apos) [] [] cpos) _ => decide (nm = "pop") && chk S sc (.peek j) o && baseOk o && decide (apos.endLine = cpos.line) && decide (S.N[i]? = some y) && locB sc y
    | _ => false
  | .mut m i es, x => match x with
    | .Expr (.Call (.Attribute o nm apos) ys [] cpos) _ => decide (nm = muNm m) && chk S sc (.peek i) o && chks S sc es ys && ys.all notStar && baseOk o && decide (apos.endLine = cpos.line) && decide (ys.length = 1)
    | _ => false
  | .ret e, x => match x with | .Return (some v) _ => chk S sc e v | _ => false
  | .retN, x => match x with | .Return none _ => true | _ => false
  | .ite t a b, x => match x with | .If c p q _ => chk S sc t c && chkSs S sc a p && chkSs S sc b q | _ => false
  | .loop tg k its body, x => match x with
    | .For tg' it' body' [] _ => chkT S sc (fun _ => true) tg tg' && notSet it' && (match itArgs sc k tg' it' with | some ys => chks S sc its ys | none => false) && chkSs S sc body body'
    | _ => false
  | .whl t body, x => match x with | .While c body' [] _ => chk S sc t c && chkSs S sc body body' | _ => false
  | .brk, x => match x with | .Break _ => true | _ => false
  | .cont, x => match x with | .Continue _ => true | _ => false
  | .never, _ => true
  | .raise k eo, x => match x with
    | .Raise (some (.Call (.Name y _) ys [] _)) none _ => (match S.xs[k]? with | some (y', fo) => decide (y' = y) && (fo.isSome == eo.isSome) | none => false) && gloB sc y && plainName y && (match eo with
      | none => match ys with | [.Constant (.str _) _ _] => true | _ => false
      | some e => match ys with | [a] => chk S sc e a && notStar a | _ => false)
    | _ => false
  | .exX f es, x => match x with | .Expr v _ => chk S sc (.call f es) v && notComp v | _ => false
  | .asgX i f es, x => match x with
    | .Assign [.Name y py] v _ => chk S sc (.call f es) v && decide (S.N[i]? = some y) && locB sc y && notSD v && !(swB sc y py v)
    | _ => false
  | .retXA f es g gs, x => match x with
    | .Return (some (.Call (.Name y _) ys [] _)) _ => decide (S.fns[f]? = some y) && !S.gds.contains f && gloB sc y && plainName y && (match ys.getLast? with
      | some z => chk S sc (.call g gs) z && notStar z && chks S sc es ys.dropLast && ys.dropLast.all notStar
      | none => false)
    | _ => false
  | .retX f es, x => match x with | .Return (some v) _ => chk S sc (.call f es) v | _ => false
  | .loopF i fs body, x => match x with
    | .For (.Name y _) (.Tuple ns _ _) body' [] _ => decide (S.N[i]? = some y) && locB sc y && chkFs S sc fs ns && chkSs S sc body body' && decide (fs.length ≤ 1000)
    | _ => false
def chkSs (S : Sx) (sc : Scope) : List Stm → List Stmt → Bool
  | [], xs => match xs with | [] => true | _ => false
  | s :: ss, xs => match xs with | x :: ys => chkS S sc s x && chkSs S sc ss ys | _ => false
end

/-! ### readings -/
def EndQ (K : Frag) (B : Bs) (D : Ends) (f : Flow) (F H : Hp) (σ : L2.St) (s : Env) : Prop := match f with
  | .next => D.nx σ H
  | .brk => D.bk σ H
  | .cont => D.ct σ H
  | .ret r => ∀ v, RvR K B F H σ s v r → D.rt v H
def tS (K : Frag) (γ : Gt) (c : Cf) (st : Stm) : TS := fun D σ H => ∃ B s f s', evS c st s = .ok f s' ∧ ∃ F, EnvR K γ B F H σ s ∧ ∀ σ' H' F', Sub F F' → EnvR K γ B F' H' σ' s' → EndQ K B D f F' H' σ' s'
def tSs (K : Frag) (γ : Gt) (c : Cf) (ss : List Stm) : TS := fun D σ H => ∃ B s f s', evSs c ss s = .ok f s' ∧ ∃ F, EnvR K γ B F H σ s ∧ ∀ σ' H' F', Sub F F' → EnvR K γ B F' H' σ' s' → EndQ K B D f F' H' σ' s'
structure XP (X : Cx) : Prop where
  pass : PassesOwn (model X.prog X.w) X.A X.env X.xe
  fn : ∀ x, X.fn x = true
def SS (p : Prg) (γ : Gt) (n : Nat) (S : Sx) (st : Stm) : Prop := ∀ (X : Cx) (x : Stmt), XC p γ n S X → XP X → chkS S X.env.scope st x = true → PS X x (tS X.K γ (p.cf n) st)
def SSs (p : Prg) (γ : Gt) (n : Nat) (S : Sx) (st : List Stm) : Prop := ∀ (X : Cx) (x : List Stmt), XC p γ n S X → XP X → chkSs S X.env.scope st x = true → PSs X x (tSs X.K γ (p.cf n) st)
/-- what is wanted of an exception -/
def ExcQ (K : Frag) (γ : Gt) (B : Bs) (W : WX) (k : Nat) (v : PV) (F : Hp) : Prop := ∀ σ' H' F' s' cls d, Sub F F' → EnvR K γ B F' H' σ' s' → XR K γ F' H' cls d k v → W cls d σ' H'
theorem ExcQ.sub {K : Frag} {γ : Gt} {B : Bs} {W : WX} {k : Nat} {v : PV} {F F' : Hp} (h : ExcQ K γ B W k v F) (s : Sub F F') : ExcQ K γ B W k v F' := fun σ' H' F2 s' cls d s1 e x => h σ' H' F2 s' cls d (s.trans s1) e x
/-- a run to its end, or to an exception -/
def OutQ (K : Frag) (γ : Gt) (B : Bs) (W : WX) (D : Ends) (o : RE Flow) (F : Hp) : Prop := match o with
  | .ok f s' => ∀ σ' H' F', Sub F F' → EnvR K γ B F' H' σ' s' → EndQ K B D f F' H' σ' s'
  | .exc k v => ExcQ K γ B W k v F
  | .stuck => False
theorem OutQ.sub {K : Frag} {γ : Gt} {B : Bs} {W : WX} {D : Ends} {o : RE Flow} {F F' : Hp} (h : OutQ K γ B W D o F) (s : Sub F F') : OutQ K γ B W D o F' := by
  cases o with
  | ok f s' => exact fun σ' H' F2 s1 e => h σ' H' F2 (s.trans s1) e
  | exc k v => exact ExcQ.sub h s
  | stuck => exact h
def tSX (K : Frag) (γ : Gt) (c : Cf) (W : WX) (st : Stm) : TS := fun D σ H => ∃ B s F, EnvR K γ B F H σ s ∧ OutQ K γ B W D (evS c st s) F
def tSsX (K : Frag) (γ : Gt) (c : Cf) (W : WX) (ss : List Stm) : TS := fun D σ H => ∃ B s F, EnvR K γ B F H σ s ∧ OutQ K γ B W D (evSs c ss s) F
def SSX (p : Prg) (γ : Gt) (n : Nat) (S : Sx) (st : Stm) : Prop := ∀ (X : Cx) (W : WX) (x : Stmt), XC p γ n S X → XP X → Takes X W → chkS S X.env.scope st x = true → PS X x (tSX X.K γ (p.cf n) W st)
def SSsX (p : Prg) (γ : Gt) (n : Nat) (S : Sx) (st : List Stm) : Prop := ∀ (X : Cx) (W : WX) (x : List Stmt), XC p γ n S X → XP X → Takes X W → chkSs S X.env.scope st x = true → PSs X x (tSsX X.K γ (p.cf n) W st)
section
variable {p : Prg} {n : Nat} {S : Sx} {K : Frag} {γ : Gt} {c : Cf}
theorem ssx_of {st : Stm} (h : SS p γ n S st) (nx : ∀ c : Cf, NX (evS c st)) : SSX p γ n S st := fun X W x xc xp tk hc => by
  refine PS.imp (h X x xc xp hc) fun D σ H q => ?_
  obtain ⟨B, s, F, en, k⟩ := q
  cases e : evS (p.cf n) st s with
  | ok f s' => rw [e] at k; exact ⟨B, s, f, s', e, F, en, k⟩
  | exc k' v => exact (nx _ s k' v e).elim
  | stuck => rw [e] at k; exact k.elim
theorem sssx_nil : SSsX p γ n S [] := fun X W x c xp tk h => by
  cases x with
  | nil =>
    refine PSs.imp pss_nil fun D σ H q => ?_
    obtain ⟨B, s, F, en, k⟩ := q
    exact k σ H F (Sub.refl F) en
  | cons y ys => simp [chkSs] at h
theorem sssx_cons {a : Stm} {as : List Stm} (ha : SSX p γ n S a) (hs : SSsX p γ n S as) : SSsX p γ n S (a :: as) := fun X W x c xp tk h => by
  cases x with
  | nil => simp [chkSs] at h
  | cons y ys =>
    simp only [chkSs, Bool.and_eq_true] at h
    refine PSs.imp (pss_cons (ha X W y c xp tk h.1) (hs X W ys c xp tk h.2)) fun D σ H q => ?_
    obtain ⟨B, s, F, en, k⟩ := q
    refine ⟨B, s, F, en, ?_⟩
    have k : OutQ X.K γ B W D ((evS (p.cf n) a s).andThen fun f => match f with
      | .next => evSs (p.cf n) as
      | .brk => pure .brk
      | .cont => pure .cont
      | .ret r => pure (.ret r)) F := k
    cases e : evS (p.cf n) a s with
    | stuck => rw [e] at k; exact k
    | exc k' v => rw [e] at k; exact k
    | ok f1 s1 =>
      rw [e] at k
      cases f1 with
      | next => exact fun σ' H' F' q1 e1 => ⟨B, s1, F', e1, OutQ.sub k q1⟩
      | brk => exact k
      | cont => exact k
      | ret r => exact k
theorem ss_pass : SS p γ n S .pass := fun X x c xp h => by
  simp only [chkS] at h
  have fin : ∀ D σ H, tS X.K γ (p.cf n) .pass D σ H → tNext D σ H := fun D σ H q => by
    obtain ⟨B, s, f, s', hv, F, en, k⟩ := q
    obtain ⟨rfl, rfl⟩ := pure_inv hv
    exact k σ H F (Sub.refl F) en
  split at h
  · exact PS.imp ps_pass fin
  · exact PS.imp ps_doc fin
  · cases h
theorem ss_brk : SS p γ n S .brk := fun X x c xp h => by
  simp only [chkS] at h
  split at h
  · refine PS.imp ps_break fun D σ H q => ?_
    obtain ⟨B, s, f, s', hv, F, en, k⟩ := q
    obtain ⟨rfl, rfl⟩ := pure_inv hv
    exact k σ H F (Sub.refl F) en
  · cases h
theorem ss_cont : SS p γ n S .cont := fun X x c xp h => by
  simp only [chkS] at h
  split at h
  · refine PS.imp ps_continue fun D σ H q => ?_
    obtain ⟨B, s, f, s', hv, F, en, k⟩ := q
    obtain ⟨rfl, rfl⟩ := pure_inv hv
    exact k σ H F (Sub.refl F) en
  · cases h
theorem ss_never : SS p γ n S .never := fun X x c xp h => by
  refine PS.imp ps_never fun D σ H q => ?_
  obtain ⟨B, s, f, s', hv, _⟩ := q
  cases hv
theorem ss_retN : SS p γ n S .retN := fun X x c xp h => by
  simp only [chkS] at h
  split at h
  · refine PS.imp ps_retN fun D σ H q => ?_
    obtain ⟨B, s, f, s', hv, F, en, k⟩ := q
    obtain ⟨rfl, rfl⟩ := pure_inv hv
    exact k σ H F (Sub.refl F) en .non .non
  · cases h
theorem ss_ret {e : E} : SS p γ n S (.ret e) := fun X x c xp h => by
  simp only [chkS] at h
  split at h
  · refine PS.imp (ps_ret (se e X _ c h)) fun D σ H q => ?_
    obtain ⟨B, s, f, s', hv, F, en, k⟩ := q
    obtain ⟨r, s1, g1, w1⟩ := bind_inv hv
    refine ⟨B, s, r, s1, g1, F, en, fun v H' F' q1 e1 rv => ?_⟩
    cases r with
    | frz d => obtain ⟨rfl, rfl⟩ := pure_inv w1; exact k σ H' F' q1 e1 v rv
    | own d => obtain ⟨rfl, rfl⟩ := pure_inv w1; exact k σ H' F' q1 e1 v rv
    | slot i => cases w1
  · cases h
theorem sw_none {v : Expr} {l : Nat} {env : PySem.Env} (h : notComp v = true) : swapsWith v none l env = pure false := by
  cases v <;> first | rfl | cases h
theorem sw_sub {v o i : Expr} {q : Pos} {l : Nat} {env : PySem.Env} : swapsWithSole [.Subscript o i q] v l env = pure false := by
  cases v <;> rfl
theorem sw_tup {v : Expr} {ts : List Expr} {k : Nat} {q : Pos} {l : Nat} {env : PySem.Env} : swapsWithSole [.Tuple ts k q] v l env = pure false := by
  cases v <;> rfl
theorem sw_name {v : Expr} {y : Str} {py : Pos} {l : Nat} {env : PySem.Env} (h : swB env.scope y py v = false) (hn : notSD v = true) : swapsWith v (some (.Name y py)) l env = pure false := by
  have hk : (env.kindOf y == some .local) = decide (env.scope.names.lookup y = some .local) := by
    unfold Env.kindOf
    cases env.scope.names.lookup y with
    | none => rfl
    | some k => cases k <;> rfl
  cases v <;> first | rfl | (cases hn; done) | skip
  · rename_i elt gs sc pos
    unfold swapsWith
    show (pure (env.blockKind == .function && env.kindOf y == some .local && py.line == pos.line && !(sc.names.any fun (n, k) => n == y && (k == .local || k == .cell))) : Sem Bool) = pure false
    congr 1
    rw [hk, Bool.and_assoc, Bool.and_assoc, ← Bool.and_assoc (decide _)]
    show (env.blockKind == .function && swB env.scope y py (.ListComp elt gs sc pos)) = false
    rw [h, Bool.and_false]
  · rename_i kx vx gs sc pos
    unfold swapsWith
    show (pure (env.blockKind == .function && env.kindOf y == some .local && py.line == pos.line && !(sc.names.any fun (n, k) => n == y && (k == .local || k == .cell))) : Sem Bool) = pure false
    congr 1
    rw [hk, Bool.and_assoc, Bool.and_assoc, ← Bool.and_assoc (decide _)]
    show (env.blockKind == .function && swB env.scope y py (.DictComp kx vx gs sc pos)) = false
    rw [h, Bool.and_false]
theorem ss_ex {e : E} : SS p γ n S (.ex e) := fun X x c xp h => by
  simp only [chkS] at h
  split at h
  · rw [Bool.and_eq_true] at h
    refine PS.imp (ps_expr (se e X _ c h.1) (sw_none h.2)) fun D σ H q => ?_
    obtain ⟨B, s, f, s', hv, F, en, k⟩ := q
    obtain ⟨r, s1, g1, w1⟩ := bind_inv hv
    obtain ⟨rfl, rfl⟩ := pure_inv w1
    exact ⟨B, s, r, s', g1, F, en, fun v H' F' q1 e1 rv => k σ H' F' q1 e1⟩
  · cases h
theorem ssx_ite {t : E} {a b : List Stm} (ha : SSsX p γ n S a) (hb : SSsX p γ n S b) : SSX p γ n S (.ite t a b) := fun X W x c xp tk h => by
  simp only [chkS] at h
  split at h
  case h_2 => cases h
  simp only [Bool.and_eq_true] at h
  obtain ⟨⟨h1, h2⟩, h3⟩ := h
  refine PS.imp (ps_if (st t X _ c h1) (ha X W _ c xp tk h2) (hb X W _ c xp tk h3)) fun D σ H q => ?_
  obtain ⟨B, s, F, en, k⟩ := q
  have e0 : evS (p.cf n) (.ite t a b) s = (ev (p.cf n) t s).andThen fun x s1 => (opd x s1).andThen fun u s2 => (M.opt (truth u) s2).andThen fun b1 => if b1 then evSs (p.cf n) a else evSs (p.cf n) b := rfl
  rw [e0] at k
  cases g1 : ev (p.cf n) t s with
  | stuck => rw [g1] at k; exact k.elim
  | exc k' v => exact (nx_ev t s k' v g1).elim
  | ok r s1 =>
    rw [g1] at k
    have k1 : OutQ X.K γ B W D ((opd r s1).andThen fun u s2 => (M.opt (truth u) s2).andThen fun b1 => if b1 then evSs (p.cf n) a else evSs (p.cf n) b) F := k
    clear k
    cases g2 : opd r s1 with
    | stuck => rw [g2] at k1; exact k1.elim
    | exc k' v => exact (nx_opd r s1 k' v g2).elim
    | ok u s2 =>
      rw [g2] at k1
      have k2 : OutQ X.K γ B W D ((M.opt (truth u) s2).andThen fun b1 => if b1 then evSs (p.cf n) a else evSs (p.cf n) b) F := k1
      clear k1
      have e2 := opd_same g2
      subst e2
      cases g3 : truth u with
      | none => rw [g3] at k2; exact k2.elim
      | some b1 =>
        rw [g3] at k2
        have k : OutQ X.K γ B W D ((if b1 then evSs (p.cf n) a else evSs (p.cf n) b) s2) F := k2
        clear k2
        refine tUT_good g1 g2 g3 en fun H' F' q1 e1 => ?_
        cases b1 with
        | true =>
          rw [if_pos rfl] at k ⊢
          exact ⟨B, s2, F', e1, OutQ.sub k q1⟩
        | false =>
          rw [if_neg Bool.false_ne_true] at k ⊢
          exact ⟨B, s2, F', e1, OutQ.sub k q1⟩
end
end Ev

/-! Ev20: stores. -/
namespace Ev
open PySem PySem.Spec L2
section
variable {p : Prg} {n : Nat} {S : Sx} {K : Frag} {γ : Gt} {c : Cf}
theorem look_val {B : Bs} {F H : Hp} {σ : L2.St} {s s' : Env} {i : Nat} {a : Int} (en : EnvR K γ B F H σ s) (h : look i s = .ok (.int a) s') : s' = s ∧ σ[i]? = some (some (.int a)) := by
  obtain ⟨h1, h2⟩ := opt_inv h
  refine ⟨h2, ?_⟩
  cases hs : s[i]? with
  | none => rw [hs] at h1; cases h1
  | some x =>
    rw [hs] at h1
    have w := en.slot i x hs
    cases x with
    | emp => cases h1
    | fn d => cases h1
    | frz d => cases h1; obtain ⟨v, w1, w2⟩ := w; cases w2; exact w1
    | own d => cases h1; obtain ⟨b, w1, w2, w3, w4⟩ := w; exact w4.elim
    | io d => cases h1; obtain ⟨b, w1, w2, w3, w4⟩ := w; exact w4.elim
def augR (op : Operator) : TIp := fun x y H Q => ∃ a b z, x = .int a ∧ y = .int b ∧ binOp op (.int a) (.int b) = some (.frz (.int z)) ∧ Q (.int z) H
theorem ip_all {X : Cx} {op : Operator} (ho : augOk op = true) : PIp X op (augR op) := by
  intro pins s σ H x y v u Q I r1 r2 h
  obtain ⟨a, b, z, rfl, rfl, hz, q⟩ := h
  cases op <;> first | (cases ho; done) | skip
  · injection hz with hz; injection hz with hz; injection hz with hz
    subst hz
    exact iop_add pins s σ H _ _ v u Q I r1 r2 ⟨a, b, rfl, rfl, q⟩
  · injection hz with hz; injection hz with hz; injection hz with hz
    subst hz
    exact iop_sub pins s σ H _ _ v u Q I r1 r2 ⟨a, b, rfl, rfl, q⟩
  · simp only [binOp] at hz
    split at hz
    · rename_i hm
      injection hz with hz; injection hz with hz; injection hz with hz
      subst hz
      obtain ⟨t, rfl⟩ := r1
      obtain ⟨t', rfl⟩ := r2
      exact PyProof.Rows.imul_int ⟨.int _, H, I.tok _, ⟨_, rfl⟩, q⟩ (mul_ok hm)
    · cases hz
  · simp only [binOp] at hz
    split at hz
    · rename_i hm
      injection hz with hz; injection hz with hz; injection hz with hz
      subst hz
      exact iop_mod pins s σ H _ _ v u Q I r1 r2 ⟨a, b, rfl, rfl, hm, q⟩
    · cases hz
  · injection hz with hz; injection hz with hz; injection hz with hz
    subst hz
    obtain ⟨t, rfl⟩ := r1
    obtain ⟨t', rfl⟩ := r2
    exact PyProof.Rows.ior_int ⟨.int _, H, I.tok _, ⟨_, rfl⟩, q⟩
  · simp only [binOp] at hz
    split at hz
    · rename_i hm
      injection hz with hz; injection hz with hz; injection hz with hz
      subst hz
      exact iop_fdivW pins s σ H _ _ v u Q I r1 r2 ⟨a, b, rfl, rfl, wide_div (b := 4000) hm.1 (by have := hm.1; have := hm.2; omega) (by decide) (by decide), q⟩
    · cases hz
theorem aug_frz {op : Operator} {a b : Int} {z : Rv} (ho : augOk op = true) (h : binOp op (.int a) (.int b) = some z) : ∃ w, z = .frz (.int w) := by
  cases op <;> first | (cases ho; done) | skip
  all_goals
    simp only [binOp] at h
    try split at h
    all_goals first
      | (cases h; done)
      | (injection h with h; exact ⟨_, h.symm⟩)
theorem ss_aug {i : Nat} {op : Operator} {e : E} : SS p γ n S (.aug i op e) := fun X x c xp h => by
  simp only [chkS] at h
  split at h
  case h_2 => cases h
  simp only [Bool.and_eq_true, decide_eq_true_eq] at h
  obtain ⟨⟨⟨⟨rfl, h1⟩, h2⟩, h3⟩, h4⟩ := h
  refine PS.imp (ps_aug c.nd (by rw [c.hN]; exact h2) (locB_ok h3) (se e X _ c h4) (ip_all h1) (.inl (xp.fn _))) fun D σ H q => ?_
  obtain ⟨B, s, f, s', hv, F, en, k⟩ := q
  obtain ⟨u, s0, g0, w0⟩ := bind_inv hv
  obtain ⟨r, s1, g1, w1⟩ := bind_inv w0
  obtain ⟨v, s2, g2, w2⟩ := bind_inv w1
  obtain ⟨z, s3, g3, w3⟩ := bind_inv w2
  obtain ⟨g3', e3⟩ := opt_inv g3
  obtain ⟨_, s4, g4, w4⟩ := bind_inv w3
  obtain ⟨rfl, rfl⟩ := pure_inv w4
  have e2 := opd_same g2
  subst e2
  subst e3
  split at g3'
  case h_2 => cases g3'
  rename_i a b
  obtain ⟨e0, hx⟩ := look_val en g0
  subst e0
  refine ⟨.int a, hx, tU_good g1 en fun y H' F' q1 e1 ry => ?_⟩
  obtain ⟨_, ty⟩ := opd_ok e1 ry g2
  obtain rfl := ty.int
  obtain ⟨w, rfl⟩ := aug_frz h1 g3'
  exact ⟨a, b, w, rfl, rfl, g3', k _ H' F' q1 (store_env e1 g4 (.int _))⟩
theorem as_sub {o i : Expr} {q : Pos} {env : PySem.Env} (h : notSlice i = true) : ∀ v, assign (.Subscript o i q) env v = (do
      let ov ← holding [v] (eval o env)
      let iv ← holding [v, ov] (eval i env)
      standAt q
      holding [v, ov, iv] (setItem ov iv v)
      release [v, ov, iv] []) := by
  intro v
  cases i <;> first | rfl | cases h
theorem ixN_eq {k : Nat} {i : Int} {j : Nat} (h : Ev.ixN k i = some j) : L2.ixN k i = some j := by
  unfold Ev.ixN at h
  unfold L2.ixN
  first | exact h | (split at h <;> split at h <;> simp_all)
theorem peek_own {B : Bs} {F H : Hp} {σ : L2.St} {s : Env} {i : Nat} {x : Slot} (hx : s[i]? = some x) (ox : isOwn x = true) : ev c (.peek i) s = .ok (.slot i) s := by
  show mPeek i s = _
  unfold mPeek
  rw [hx]
  cases x <;> first | rfl | cases ox
/-- o[i] = v of a list or a dict -/
theorem set_any {X : Cx} (hu : X.A.units + 1 < cLine) : PSet X fun o i v H Q => rSetL o i v H Q ∨ rSetD o i v H Q := by
  intro pins s σ H o i v ov iv u Q I ro ri rv h
  rcases h with h | h
  · exact set_list pins s σ H o i v ov iv u Q I ro ri rv h
  · exact set_dict hu pins s σ H o i v ov iv u Q I ro ri rv h
theorem ss_seti {i : Nat} {k e : E} : SS p γ n S (.seti i k e) := fun X x c xp h => by
  simp only [chkS] at h
  split at h
  case h_2 => cases h
  rename_i o ix tpos v pos
  simp only [Bool.and_eq_true] at h
  obtain ⟨⟨⟨h1, h2⟩, h3⟩, h4⟩ := h
  refine PS.imp (ps_asg (se e X _ c h3) (pg_sub (se (.peek i) X _ c h1) (se k X _ c h2) (set_any (by have := c.u; omega)) (as_sub h4)) sw_sub (by cases v <;> rfl) rfl) fun D σ H q => ?_
  obtain ⟨B, s, f, s', hv, F, en, kk⟩ := q
  obtain ⟨r, s1, g1, w1⟩ := bind_inv hv
  obtain ⟨d, s2, g2, w2⟩ := bind_inv w1
  obtain ⟨_, s3, g3, w3⟩ := bind_inv w2
  obtain ⟨qr, s4, g4, w4⟩ := bind_inv w3
  obtain ⟨j, s5, g5, w5⟩ := bind_inv w4
  obtain ⟨u, s6, g6, w6⟩ := bind_inv w5
  obtain ⟨w, s7, g7, w7⟩ := bind_inv w6
  obtain ⟨g7', e7⟩ := opt_inv g7
  obtain ⟨_, s8, g8, w8⟩ := bind_inv w7
  obtain ⟨rfl, rfl⟩ := pure_inv w8
  have e2 := fz_same g2
  subst e2
  obtain ⟨e3, x0, hx0, ox0, _⟩ := ownVal_inv g3
  subst e3
  have e5 := opd_same g5
  subst e5
  obtain ⟨e6, x1, hx1, ox1, hd1⟩ := ownVal_inv g6
  subst e6
  subst e7
  refine tU_good g1 en fun vv H1 F1 q1 e1 rv => ?_
  obtain ⟨_, rd⟩ := fz_ok rv g2
  refine ⟨B, _, .slot i, _, peek_own (B := B) (F := F) (H := H) (σ := σ) hx0 ox0, F1, e1, fun ov H2 F2 q2 e2 ro => ?_⟩
  refine tU_good g4 e2 fun iv H3 F3 q3 e3 ri => ?_
  obtain ⟨_, ti⟩ := opd_ok e3 ri g5
  unfold setOp at g7'
  split at g7'
  case h_3 => cases g7'
  · rename_i ds kk2
    cases hix : Ev.ixN ds.length kk2 with
    | none => rw [hix] at g7'; cases g7'
    | some j2 =>
      rw [hix] at g7'
      injection g7' with g7'
      subst g7'
      obtain rfl := ti.int
      obtain ⟨a, vs, a1, a2, a3⟩ := e3.ownList hx1 ox1 hd1
      have ro : σ[i]? = some (some ov) := ro
      rw [a1] at ro
      injection ro with ro
      injection ro with ro
      subst ro
      refine .inl ⟨a, vs, kk2, j2, rfl, rfl, a2, by rw [a3.length]; exact ixN_eq hix, ?_⟩
      have e8 := setSlot_inv hx1 g8
      subst e8
      exact kk σ _ F3 (q1.trans (q2.trans q3)) (e3.write hx1 ox1 a1 (RpAll.set (Rp.sub (q2.trans q3) rd) j2 a3))
  · rename_i ds
    split at g7'
    case isFalse => cases g7'
    rename_i hl
    cases hk : keyQ j with
    | none => rw [hk] at g7'; cases g7'
    | some kq =>
      rw [hk] at g7'
      injection g7' with g7'
      subst g7'
      obtain rfl := keyQ_kV ti hk
      obtain ⟨a, vs, a1, a2, a3⟩ := e3.ownDct hx1 ox1 hd1
      have ro : σ[i]? = some (some ov) := ro
      rw [a1] at ro
      injection ro with ro
      injection ro with ro
      subst ro
      refine .inr ⟨a, _, rfl, DPut.k a2 (by rw [a3.length, ← lim_eq]; exact hl), ?_⟩
      have e8 := setSlot_inv hx1 g8
      subst e8
      exact kk σ _ F3 (q1.trans (q2.trans q3)) (e3.writeD hx1 ox1 a1 (a3.put hk (Rp.sub (q2.trans q3) rd)))
/-- o[i] of a list, by values -/
theorem get_any {X : Cx} : PGet X (rIxL X.K) := by
  intro pins s σ H x y v u Q I rx ry h
  obtain ⟨p, xs, i, z, rfl, rfl, hq, he, q⟩ := h
  cases rx
  obtain ⟨t, rfl⟩ := ry
  obtain ⟨its, r, pl, hz⟩ := I.list hq
  obtain ⟨j, h1, h2, h3, h4, h5⟩ := atI_get he
  obtain ⟨w, ew, rw'⟩ := r.get h2
  have hl := r.length
  have hn := line63
  have fin : EP X pins σ Q w s := ⟨z, H, I, rw', q⟩
  by_cases h0 : 0 ≤ i
  · have hj : i.toNat = j := by
      rw [seqIndex_of h0 h5] at h1
      exact Option.some.inj h1
    exact wpAny_getItem_list pl.isList h0 (by omega) (by rw [hj]; simpa using ew) fin
  · have hj : (i + (its.toArray.size : Int)).toNat = j := by
      rw [seqIndex_neg (by omega) h4] at h1
      rw [List.size_toArray, ← hl]
      exact Option.some.inj h1
    exact wpAny_getItem_list_neg pl.isList (by omega) (by rw [List.size_toArray] <;> omega) (by omega) (by rw [hj]; simpa using ew) fin
theorem augOp_inv {op : Operator} {u v z : PV} (h : augOp op u v = some z) : ∃ a b w, u = .int a ∧ v = .int b ∧ z = .int w ∧ binOp op (.int a) (.int b) = some (.frz (.int w)) := by
  unfold augOp at h
  split at h
  case h_2 => cases h
  rename_i a b
  split at h
  case h_2 => cases h
  rename_i w hw
  cases h
  exact ⟨a, b, w, rfl, rfl, rfl, hw⟩
theorem ss_augI {i : Nat} {op : Operator} {k e : E} : SS p γ n S (.augI i op k e) := fun X x c xp h => by
  simp only [chkS] at h
  split at h
  case h_2 => cases h
  rename_i o ix tpos o' v pos
  simp only [Bool.and_eq_true, decide_eq_true_eq] at h
  obtain ⟨⟨⟨⟨⟨rfl, h0⟩, h1⟩, h2⟩, h3⟩, h4⟩ := h
  have hu : X.A.units + 1 < cLine := by have := c.u; omega
  refine PS.imp (ps_augS (se (.peek i) X _ c h1) (se k X _ c h2) get_any (se e X _ c h3) (ip_all h0) (set_any hu) (by intro ov iv new; cases ix <;> first | rfl | cases h4)) fun D σ H q => ?_
  obtain ⟨B, s, f, s', hv, F, en, kk⟩ := q
  obtain ⟨_, s1, g1, w1⟩ := bind_inv hv
  obtain ⟨qr, s2, g2, w2⟩ := bind_inv w1
  obtain ⟨j, s3, g3, w3⟩ := bind_inv w2
  obtain ⟨u, s4, g4, w4⟩ := bind_inv w3
  obtain ⟨old, s5, g5, w5⟩ := bind_inv w4
  obtain ⟨g5', e5⟩ := opt_inv g5
  obtain ⟨r, s6, g6, w6⟩ := bind_inv w5
  obtain ⟨vv, s7, g7, w7⟩ := bind_inv w6
  obtain ⟨z, s8, g8, w8⟩ := bind_inv w7
  obtain ⟨g8', e8⟩ := opt_inv g8
  obtain ⟨u2, s9, g9, w9⟩ := bind_inv w8
  obtain ⟨w, s10, g10, w10⟩ := bind_inv w9
  obtain ⟨g10', e10⟩ := opt_inv g10
  obtain ⟨_, s11, g11, w11⟩ := bind_inv w10
  obtain ⟨rfl, rfl⟩ := pure_inv w11
  obtain ⟨e1, x0, hx0, ox0, _⟩ := ownVal_inv g1
  subst e1
  have e3 := opd_same g3
  subst e3
  obtain ⟨e4, x1, hx1, ox1, hd1⟩ := ownVal_inv g4
  subst e4
  subst e5
  have e7 := opd_same g7
  subst e7
  subst e8
  obtain ⟨e9, x2, hx2, ox2, hd2⟩ := ownVal_inv g9
  subst e9
  subst e10
  obtain ⟨a, b, wz, rfl, rfl, rfl, hbin⟩ := augOp_inv g8'
  refine ⟨B, _, .slot i, _, peek_own (B := B) (F := F) (H := H) (σ := σ) hx0 ox0, F, en, fun ov H1 F1 q1 e1 ro => ?_⟩
  refine tU_good g2 e1 fun iv H2 F2 q2 e2 ri => ?_
  obtain ⟨_, ti⟩ := opd_ok e2 ri g3
  have ro : σ[i]? = some (some ov) := ro
  unfold augGet at g5'
  split at g5'
  case h_2 => cases g5'
  rename_i ds kk2
  -- what is put back
  have rest : ∀ (H3 : Hp) (F3 : Hp), Sub F2 F3 → EnvR X.K γ B F3 H3 σ s10 → (∀ {H' F' : Hp}, H' = H3 → F' = F3 → (rSetL ov iv (.int wz) H3 fun H6 => D.nx σ H6) ∨ rSetD ov iv (.int wz) H3 fun H6 => D.nx σ H6) := by
    intro H3 F3 q3 e3 _ _ _ _
    cases u2 with
    | list ds2 =>
      unfold setOp at g10'
      dsimp only at g10'
      cases hix : Ev.ixN ds2.length kk2 with
      | none => rw [hix] at g10'; cases g10'
      | some j2 =>
        rw [hix] at g10'
        injection g10' with g10'
        subst g10'
        obtain rfl := ti.int
        obtain ⟨a1, vs, a2, a3, a4⟩ := e3.ownList hx2 ox2 hd2
        rw [a2] at ro
        injection ro with ro
        injection ro with ro
        subst ro
        refine .inl ⟨a1, vs, kk2, j2, rfl, rfl, a3, by rw [a4.length]; exact ixN_eq hix, ?_⟩
        have e8 := setSlot_inv hx2 g11
        subst e8
        exact kk σ _ F3 (q1.trans (q2.trans q3)) (e3.write hx2 ox2 a2 (RpAll.set (.int wz) j2 a4))
    | dict ds2 =>
      unfold setOp at g10'
      dsimp only at g10'
      split at g10'
      case isFalse => cases g10'
      rename_i hl
      cases hk : keyQ (.int kk2) with
      | none => rw [hk] at g10'; cases g10'
      | some kq =>
        rw [hk] at g10'
        injection g10' with g10'
        subst g10'
        obtain rfl := keyQ_kV ti hk
        obtain ⟨a1, vs, a2, a3, a4⟩ := e3.ownDct hx2 ox2 hd2
        rw [a2] at ro
        injection ro with ro
        injection ro with ro
        subst ro
        refine .inr ⟨a1, _, rfl, DPut.k a3 (by rw [a4.length, ← lim_eq]; exact hl), ?_⟩
        have e8 := setSlot_inv hx2 g11
        subst e8
        exact kk σ _ F3 (q1.trans (q2.trans q3)) (e3.writeD hx2 ox2 a2 (a4.put hk (.int wz)))
    | _ => cases g10'
  have fin : tU X.K γ (p.cf n) e σ H2 fun y H4 => augR o' (.int a) y H4 fun z H5 => rSetL ov iv z H5 (fun H6 => D.nx σ H6) ∨ rSetD ov iv z H5 fun H6 => D.nx σ H6 := by
    refine tU_good g6 e2 fun y H3 F3 q3 e3 ry => ?_
    obtain ⟨_, ty⟩ := opd_ok e3 ry g7
    obtain rfl := ty.int
    exact ⟨a, b, wz, rfl, rfl, hbin, rest H3 F3 q3 e3 rfl rfl⟩
  obtain rfl := ti.int
  obtain ⟨a1, vs, a2, a3, a4⟩ := e2.ownList hx1 ox1 hd1
  rw [a2] at ro
  injection ro with ro
  injection ro with ro
  subst ro
  obtain ⟨v0, h5, h6⟩ := at_ok a4 g5'
  cases h6
  exact ⟨a1, vs, kk2, .int a, rfl, rfl, .inl (.inl a3), h5, fin⟩
/-- x[k] is given a value, as the evaluator does -/
def tSO (K : Frag) (γ : Gt) (c : Cf) (i : Nat) (k : E) : TG := fun v σ H Q => ∃ B F s d s', EnvR K γ B F H σ s ∧ Rp K F v d ∧ subOne c i k d s = .ok () s' ∧ ∀ H' F', Sub F F' → EnvR K γ B F' H' σ s' → Q σ H'
theorem pg_one {X : Cx} {i : Nat} {k : E} {o ix : Expr} {tpos : Pos} (c : XC p γ n S X) (h1 : chk S X.env.scope (.peek i) o = true) (h2 : chk S X.env.scope k ix = true) (h4 : notSlice ix = true) : PG X (.Subscript o ix tpos) (tSO X.K γ (p.cf n) i k) := by
  refine PG.imp (pg_sub (se (.peek i) X _ c h1) (se k X _ c h2) (set_any (by have := c.u; omega)) (as_sub h4)) fun vv σ H Q q => ?_
  obtain ⟨B, F1, s2, d, s', e1, rd, hv, kk⟩ := q
  obtain ⟨_, s3, g3, w3⟩ := bind_inv hv
  obtain ⟨qr, s4, g4, w4⟩ := bind_inv w3
  obtain ⟨j, s5, g5, w5⟩ := bind_inv w4
  obtain ⟨u, s6, g6, w6⟩ := bind_inv w5
  obtain ⟨w, s7, g7, g8⟩ := bind_inv w6
  obtain ⟨g7', e7⟩ := opt_inv g7
  obtain ⟨e3, x0, hx0, ox0, _⟩ := ownVal_inv g3
  subst e3
  have e5 := opd_same g5
  subst e5
  obtain ⟨e6, x1, hx1, ox1, hd1⟩ := ownVal_inv g6
  subst e6
  subst e7
  refine ⟨B, _, .slot i, _, peek_own (B := B) (F := F1) (H := H) (σ := σ) hx0 ox0, F1, e1, fun ov H2 F2 q2 e2 ro => ?_⟩
  refine tU_good g4 e2 fun iv H3 F3 q3 e3 ri => ?_
  obtain ⟨_, ti⟩ := opd_ok e3 ri g5
  have ro : σ[i]? = some (some ov) := ro
  unfold setOp at g7'
  split at g7'
  case h_3 => cases g7'
  · rename_i ds kk2
    cases hix : Ev.ixN ds.length kk2 with
    | none => rw [hix] at g7'; cases g7'
    | some j2 =>
      rw [hix] at g7'
      injection g7' with g7'
      subst g7'
      obtain rfl := ti.int
      obtain ⟨a, vs, a1, a2, a3⟩ := e3.ownList hx1 ox1 hd1
      rw [a1] at ro
      injection ro with ro
      injection ro with ro
      subst ro
      refine .inl ⟨a, vs, kk2, j2, rfl, rfl, a2, by rw [a3.length]; exact ixN_eq hix, ?_⟩
      have e8 := setSlot_inv hx1 g8
      subst e8
      exact kk _ F3 (q2.trans q3) (e3.write hx1 ox1 a1 (RpAll.set (Rp.sub (q2.trans q3) rd) j2 a3))
  · rename_i ds
    split at g7'
    case isFalse => cases g7'
    rename_i hl
    cases hk : keyQ j with
    | none => rw [hk] at g7'; cases g7'
    | some kq =>
      rw [hk] at g7'
      injection g7' with g7'
      subst g7'
      obtain rfl := keyQ_kV ti hk
      obtain ⟨a, vs, a1, a2, a3⟩ := e3.ownDct hx1 ox1 hd1
      rw [a1] at ro
      injection ro with ro
      injection ro with ro
      subst ro
      refine .inr ⟨a, _, rfl, DPut.k a2 (by rw [a3.length, ← lim_eq]; exact hl), ?_⟩
      have e8 := setSlot_inv hx1 g8
      subst e8
      exact kk _ F3 (q2.trans q3) (e3.writeD hx1 ox1 a1 (a3.put hk (Rp.sub (q2.trans q3) rd)))
def tSOs (K : Frag) (γ : Gt) (c : Cf) (ts : List (Nat × E)) : TGs := fun vs σ H Q => ∃ B F s ds s', EnvR K γ B F H σ s ∧ RpAll K F vs ds ∧ subAll c ts ds s = .ok () s' ∧ ∀ H' F', Sub F F' → EnvR K γ B F' H' σ s' → Q σ H'
theorem pgs_subs {X : Cx} (c : XC p γ n S X) : ∀ (ts : List (Nat × E)) (xs : List Expr), chkSub S X.env.scope ts xs = true → PGs X xs (tSOs X.K γ (p.cf n) ts) ∧ xs.all notStar = true ∧ xs.length = ts.length
  | [], xs, h => by
    cases xs with
    | cons x xs => cases h
    | nil =>
      refine ⟨⟨fun pins s σ H vs us Q I r q => ?_⟩, rfl, rfl⟩
      obtain ⟨B, F, s0, ds, s', en, ra, hb, k⟩ := q
      cases ds with
      | cons d ds => cases hb
      | nil =>
        obtain rfl := ra.nil_inv
        obtain ⟨_, rfl⟩ := pure_inv hb
        exact pgs_nil.run pins s σ H [] us Q I r ⟨rfl, k H F (Sub.refl F) en⟩
  | t :: ts, xs, h => by
    cases xs with
    | nil => cases h
    | cons x xs =>
      unfold chkSub at h
      split at h
      case h_2 => cases h
      rename_i o ix tpos ys hxs
      cases hxs
      simp only [Bool.and_eq_true] at h
      obtain ⟨⟨⟨h1, h2⟩, h3⟩, h4⟩ := h
      obtain ⟨i1, i2, i3⟩ := pgs_subs c ts _ h4
      refine ⟨⟨fun pins s σ H vs us Q I r q => ?_⟩, by rw [List.all_cons, i2]; rfl, by rw [List.length_cons, List.length_cons, i3]⟩
      refine (pgs_cons (pg_one c h1 h2 h3) i1 rfl).run pins s σ H vs us Q I r ?_
      obtain ⟨B, F, s0, ds, s', en, ra, hb, k⟩ := q
      cases ds with
      | nil => cases hb
      | cons d ds =>
        obtain ⟨v, ws, rfl, r1, r2⟩ := ra.cons_inv
        obtain ⟨_, s1, g1, g2⟩ := bind_inv hb
        exact ⟨v, ws, rfl, B, F, s0, d, s1, en, r1, g1, fun H1 F1 q1 e1 => ⟨B, F1, s1, ds, s', e1, RpAll.sub q1 r2, g2, fun H2 F2 q2 e2 => k H2 F2 (q1.trans q2) e2⟩⟩
theorem sw_subs {sc : Scope} {v : Expr} {env : PySem.Env} : ∀ {ts : List (Nat × E)} {xs : List Expr} {k : Nat} {q : Pos}, ts ≠ [] → chkSub S sc ts xs = true → swappedStores [.Tuple xs k q] v env = pure none := fun {ts xs k q} hne h => by
  have far : ∀ (l : Nat), (xs.filterMap fun | .Name id pos => if env.kindOf id == some .local && pos.line == l then some id else none | _ => none).length ≠ xs.length := fun l => by
    cases ts with
    | nil => exact (hne rfl).elim
    | cons t ts =>
      cases xs with
      | nil => cases h
      | cons x xs =>
        unfold chkSub at h
        split at h
        case h_2 => cases h
        rename_i o ix tpos ys hxs
        cases hxs
        rw [List.filterMap_cons]
        have le := List.length_filterMap_le (fun x => match x with | Expr.Name id pos => if env.kindOf id == some .local && pos.line == l then some id else none | _ => none) xs
        rw [List.length_cons]
        dsimp only
        omega
  cases v <;> first | rfl | skip
  rename_i vs k2 q2
  have hn := far ((Option.map (fun x => x.pos.line) xs.head?).getD 0)
  unfold swappedStores
  dsimp only
  repeat' split
  all_goals first
    | rfl
    | (exfalso; rename_i hh; simp only [Bool.or_eq_true, bne_iff_ne, ne_eq, not_or, Classical.not_not] at hh; exact hn hh.1)
    | (exfalso; rename_i hh _; simp only [Bool.or_eq_true, bne_iff_ne, ne_eq, not_or, Classical.not_not] at hh; exact hn hh.1)
    | (exfalso; rename_i hh _ _; simp only [Bool.or_eq_true, bne_iff_ne, ne_eq, not_or, Classical.not_not] at hh; exact hn hh.1)
theorem ss_subs {ts : List (Nat × E)} {es : List E} : SS p γ n S (.subs ts es) := fun X x c xp h => by
  simp only [chkS] at h
  split at h
  case h_2 => cases h
  rename_i tgs k1 pt v pos
  simp only [Bool.and_eq_true, Bool.not_eq_true'] at h
  obtain ⟨⟨h1, h2⟩, h3⟩ := h
  have hne : ts ≠ [] := fun z => by rw [z] at h2; cases h2
  obtain ⟨i1, i2, i3⟩ := pgs_subs c ts tgs h1
  refine PS.imp (ps_asg (se (.tup es) X _ c h3) (pg_tup (n := tgs.length) c.calm i1 (asg_len i2) (asg_find i2)) sw_tup (sw_subs hne h1) rfl) fun D σ H q => ?_
  obtain ⟨B, s, f, s', hv, F, en, k⟩ := q
  obtain ⟨r, s1, g1, w1⟩ := bind_inv hv
  obtain ⟨d, s2, g2, w2⟩ := bind_inv w1
  have e2 := fz_same g2
  subst e2
  refine tU_good g1 en fun vv H1 F1 q1 e1 rv => ?_
  obtain ⟨_, rd⟩ := fz_ok rv g2
  cases d <;> first | (cases w2; done) | skip
  rename_i ds
  obtain ⟨_, s3, g3, w3⟩ := bind_inv w2
  obtain ⟨rfl, rfl⟩ := pure_inv w3
  have hl : ∀ {ts : List (Nat × E)} {ds : List PV} {s s' : Env}, subAll (p.cf n) ts ds s = .ok () s' → ds.length = ts.length := fun {ts} => by
    induction ts with
    | nil => intro ds s s' h; cases ds <;> first | rfl | cases h
    | cons t ts ih =>
      intro ds s s' h
      cases ds with
      | nil => cases h
      | cons d ds =>
        obtain ⟨_, s1, _, h2⟩ := bind_inv h
        rw [List.length_cons, List.length_cons, ih h2]
  cases rd with
  | tup a b =>
    refine ⟨_, _, rfl, SqT.sub e1.fh a.sqt, ?_, B, F1, _, ds, _, e1, b, g3, fun H2 F2 q2 e2 => k σ H2 F2 (q1.trans q2) e2⟩
    rw [b.length, hl g3, i3]
end
end Ev

/-! Ev21: further statements. -/
namespace Ev
open PySem PySem.Spec L2
section
variable {p : Prg} {n : Nat} {S : Sx} {K : Frag} {γ : Gt} {c : Cf}
def rMu : Mu → V → List V → Hp → VK → Prop
  | .append => rAppend
  | .extend => rExtL
theorem pe_mu {X : Cx} {m : Mu} {nm : Str} {o e : Expr} {apos cpos : Pos} {to : TE} {t : TA} (hn : nm = muNm m) (ho : PE X o to) (ha : PA X [e] t)
    (hb : baseOk o = true) (hl : apos.endLine = cpos.line) (hs : notStar e = true) : PE X (.Call (.Attribute o nm apos) [e] [] cpos) (tBM X.K "list" (rMu m) to t) := by
  subst hn
  cases m with
  | append => exact pe_bm PySem.F.plainAttrs_list PySem.F.slot_list_append PySem.F.type_list_append mt_append ho ha (baseOk_base hb) (baseKw hs) (by rw [hl]; exact beq_self_eq_true _) (star_cons hs) (star_plain (by rfl))
  | extend => exact pe_bm PySem.F.plainAttrs_list PySem.F.slot_list_extend PySem.F.type_list_extend mt_extL ho ha (baseOk_base hb) (baseKw hs) (by rw [hl]; exact beq_self_eq_true _) (star_cons hs) (star_plain (by rfl))
theorem one_all {y : Expr} (h : [y].all notStar = true) : notStar y = true := by
  rw [List.all_cons, Bool.and_eq_true] at h
  exact h.1
theorem ss_mut {m : Mu} {i : Nat} {es : List E} : SS p γ n S (.mut m i es) := fun X x c xp h => by
  simp only [chkS] at h
  split at h
  case h_2 => cases h
  rename_i o nm apos ys cpos pos
  simp only [Bool.and_eq_true, decide_eq_true_eq] at h
  obtain ⟨⟨⟨⟨⟨⟨h1, h2⟩, h3⟩, h4⟩, h5⟩, h6⟩, h7⟩ := h
  match ys, h7, h3, h4 with
  | [y], _, h3, h4 =>
    refine PS.imp (ps_expr (pe_mu h1 (se (.peek i) X _ c h2) (ses es X _ c h3 h4) h5 h6 (one_all h4)) (sw_none rfl)) fun D σ H q => ?_
    obtain ⟨B, s, f, s', hv, F, en, k⟩ := q
    obtain ⟨u0, s0, g0, w0⟩ := bind_inv hv
    obtain ⟨e0, x0, hx0, ox0, hd0⟩ := ownVal_inv g0
    subst e0
    split at w0
    case isFalse => cases w0
    rename_i hl0
    obtain ⟨rs, s1, g1, w1⟩ := bind_inv w0
    obtain ⟨ds, s2, g2, w2⟩ := bind_inv w1
    obtain ⟨u, s3, g3, w3⟩ := bind_inv w2
    obtain ⟨w, s4, g4, w4⟩ := bind_inv w3
    obtain ⟨g4', e4⟩ := opt_inv g4
    obtain ⟨_, s5, g5, w5⟩ := bind_inv w4
    obtain ⟨rfl, rfl⟩ := pure_inv w5
    have e2 : s2 = s1 := by
      clear w0 w1 w2 w3 w4 g3 g4 g5 e4
      revert g2
      generalize s1 = t
      intro g2
      exact fzs_same g2
    subst e2
    obtain ⟨e3, x1, hx1, ox1, hd1⟩ := ownVal_inv g3
    subst e3
    subst e4
    refine ⟨B, _, .slot i, _, peek_own (F := F) (H := H) (σ := σ) (B := B) hx0 ox0, F, en, fun ov H1 F1 q1 e1 ro => ?_⟩
    have ro : σ[i]? = some (some ov) := ro
    cases u0 with
    | list ds0 =>
      obtain ⟨a, vs0, a1, a2, a3⟩ := e1.ownList hx0 ox0 hd0
      rw [a1] at ro
      injection ro with ro
      injection ro with ro
      subst ro
      refine ⟨.inl ⟨rfl, vs0, .inl (.inl a2)⟩, B, _, rs, _, g1, F1, e1, fun xs H2 F2 q2 e2 rv => ?_⟩
      obtain ⟨_, tv⟩ := fzs_ok rv g2
      have hend : ∀ {es2 : List PV} {ys2 : List V}, w = .list es2 → RpAll X.K F2 ys2 es2 → D.nx σ (upd H2 a (.lst ys2)) := fun {es2 ys2} hw hr => by
        have e8 := setSlot_inv hx1 g5
        rw [hw] at e8
        subst e8
        exact k σ _ F2 (q1.trans q2) (e2.write hx1 ox1 a1 hr)
      have hown : ∀ {es2 : List PV}, u = .list es2 → ∃ vs, H2 a = some (.lst vs) ∧ RpAll X.K F2 vs es2 := fun {es2} hu => by
        rw [hu] at hd1
        obtain ⟨a', vs', b1, b2, b3⟩ := e2.ownList hx1 ox1 hd1
        rw [a1] at b1
        injection b1 with b1
        injection b1 with b1
        injection b1 with b1
        subst b1
        exact ⟨vs', b2, b3⟩
      unfold muOp at g4'
      split at g4'
      · rename_i zs y2
        split at g4'
        · rename_i hz
          injection g4' with g4'
          obtain ⟨vs, b2, b3⟩ := hown rfl
          obtain ⟨yv, ws, rfl, r5, r6⟩ := tv.cons_inv
          obtain rfl := r6.nil_inv
          exact ⟨a, vs, yv, rfl, rfl, b2, by rw [b3.length, ← lim_eq]; exact hz, hend g4'.symm (b3.append (.cons r5 .nil))⟩
        · cases g4'
      · rename_i zs y2
        split at g4'
        · rename_i hz
          injection g4' with g4'
          obtain ⟨vs, b2, b3⟩ := hown rfl
          obtain ⟨yv, ws, rfl, r5, r6⟩ := tv.cons_inv
          obtain rfl := r6.nil_inv
          obtain ⟨b, vs5, rfl, hb, rb⟩ := (Rp.top e2.fh r5).lst
          exact ⟨a, b, vs, vs5, rfl, rfl, b2, hb, by rw [b3.length, rb.length, ← lim_eq]; exact hz, hend g4'.symm (b3.append rb)⟩
        · cases g4'
      · cases g4'
    | _ => cases hl0
/-! ### names stored -/
theorem sw_stores {v : Expr} {ts : List Expr} {k : Nat} {q : Pos} {env : PySem.Env} (h : tupVal v = true) : swappedStores [.Tuple ts k q] v env = pure none := by
  cases v <;> first | rfl | skip
  rename_i vs k2 q2
  have h : vs.all (foldedForSure 8) = true := h
  unfold swappedStores
  dsimp only
  repeat' split
  all_goals first
    | rfl
    | (rename_i hh; exact absurd h hh)
    | simp_all
theorem far_len {env : PySem.Env} {l : Nat} : ∀ {ts : List Expr}, ts.any (farN env.scope) = true → (ts.filterMap fun | .Name id pos => if env.kindOf id == some .local && pos.line == l then some id else none | _ => none).length ≠ ts.length := fun {ts} h => by
  apply Nat.ne_of_lt
  induction ts with
  | nil => cases h
  | cons t ts ih =>
    rw [List.any_cons, Bool.or_eq_true] at h
    have le := List.length_filterMap_le (fun x => match x with | Expr.Name id pos => if env.kindOf id == some .local && pos.line == l then some id else none | _ => none) ts
    rw [List.filterMap_cons]
    split
    · rw [List.length_cons]; omega
    · rename_i b hb
      rw [List.length_cons, List.length_cons]
      rcases h with h | h
      · exfalso
        cases t <;> first | (cases hb; done) | skip
        rename_i y q
        simp only at hb
        split at hb
        · rename_i hk
          simp only [Bool.and_eq_true] at hk
          have h : (!(decide (env.scope.names.lookup y = some .local))) = true := h
          have hk := hk.1
          unfold Env.kindOf at hk
          have : env.scope.names.lookup y = some .local := by
            cases hl : env.scope.names.lookup y with
            | none => rw [hl] at hk; cases hk
            | some k => rw [hl] at hk; cases k <;> first | rfl | cases hk
          rw [this] at h
          simp at h
        · cases hb
      · have := ih h; omega
theorem sw_stores' {v : Expr} {ts : List Expr} {k : Nat} {q : Pos} {env : PySem.Env} (h : (tupVal v || farTg env.scope (.Tuple ts k q)) = true) : swappedStores [.Tuple ts k q] v env = pure none := by
  rw [Bool.or_eq_true] at h
  rcases h with h | h
  · exact sw_stores h
  · cases v <;> first | rfl | skip
    rename_i vs k2 q2
    have h : ts.any (farN env.scope) = true := h
    have hn := far_len (l := (Option.map (fun x => x.pos.line) ts.head?).getD 0) h
    unfold swappedStores
    dsimp only
    repeat' split
    all_goals first
      | rfl
      | (exfalso; rename_i hh; simp only [Bool.or_eq_true, bne_iff_ne, ne_eq, not_or, Classical.not_not] at hh; exact hn hh.1)
      | (exfalso; rename_i hh _; simp only [Bool.or_eq_true, bne_iff_ne, ne_eq, not_or, Classical.not_not] at hh; exact hn hh.1)
      | (exfalso; rename_i hh _ _; simp only [Bool.or_eq_true, bne_iff_ne, ne_eq, not_or, Classical.not_not] at hh; exact hn hh.1)
theorem tg_tup_shape {ts : List Tg} {sc : Scope} {own : Str → Bool} {x : Expr} (h : chkT S sc own (.tup ts) x = true) : ∃ xs k q, x = .Tuple xs k q := by
  simp only [chkT] at h
  split at h
  · exact ⟨_, _, _, rfl⟩
  · cases h
theorem ss_asg {t : Tg} {e : E} : SS p γ n S (.asg t e) := fun X x c xp h => by
  simp only [chkS] at h
  split at h
  case h_2 => cases h
  rename_i tg v pos
  rw [Bool.and_eq_true] at h
  obtain ⟨h1, h2⟩ := h
  cases t with
  | name i =>
    simp only at h2
    split at h2
    case h_2 => cases h2
    rename_i y py
    simp only [Bool.and_eq_true, decide_eq_true_eq, Bool.or_eq_true, Bool.not_eq_true'] at h2
    obtain ⟨⟨⟨h3, h4⟩, h5⟩, h6⟩ := h2
    have fin : ∀ (D : Ends) (σ : L2.St) (H : Hp), tS X.K γ (p.cf n) (.asg (.name i) e) D σ H → tU X.K γ (p.cf n) e σ H fun x H1 => gName i x σ H1 D.nx := fun D σ H q => by
      obtain ⟨B, s, f, s', hv, F, en, k⟩ := q
      obtain ⟨r, s1, g1, w1⟩ := bind_inv hv
      obtain ⟨_, s2, g2, w2⟩ := bind_inv w1
      obtain ⟨rfl, rfl⟩ := pure_inv w2
      exact ⟨B, s, r, s1, g1, F, en, fun v H' F' q1 e1 rv => k _ H' F' q1 (store_env e1 g2 rv)⟩
    by_cases hs : swB X.env.scope y py v = false
    · exact PS.imp (ps_set c.nd (by rw [c.hN]; exact h3) (locB_ok h4) (se e X _ c h1) (sw_name hs h5) (.inl (xp.fn _))) fin
    · rcases h6 with h6 | h6
      · exact absurd h6 hs
      · obtain ⟨h6, h7⟩ := h6
        cases e <;> first | (cases h6; done) | skip
        · rename_i own elt tg k its ifs
          obtain ⟨elt', tg', it', ifs', scope, q, wi, g, tt, te, rfl, b1, b2, b3, b4, b5, b6, b7⟩ := lc_parts (se elt) (fun e he => se e) (ses its) (fun e he => st e) c h1
          have hs : swB X.env.scope y py (.ListComp elt' [⟨tg', it', ifs', 0⟩] scope q) = true := by simpa using hs
          simp only [swB, Bool.and_eq_true, Bool.not_eq_true', decide_eq_true_eq] at hs
          obtain ⟨⟨c1, c2⟩, c3⟩ := hs
          exact PS.imp (ps_setLc c.calm c.nd (by rw [c.hN]; exact h3) c1 (sw_true (of_decide_eq_true h7) c1 c2 c3) b1 b2 b3 b4 b5 (notSet_folded b6)) fun D σ H q => b7 σ H _ (fin D σ H q)
        · rename_i own ek el tg k its ifs
          obtain ⟨kx, vx, tg', it', ifs', scope, q, wi, g, tt, tk, tv, rfl, b1, b2, b3, b4, b5, b6, b7, b8⟩ := dc_parts (se ek) (se el) (fun e he => se e) (ses its) (fun e he => st e) c h1
          have hs : swB X.env.scope y py (.DictComp kx vx [⟨tg', it', ifs', 0⟩] scope q) = true := by simpa using hs
          simp only [swB, Bool.and_eq_true, Bool.not_eq_true', decide_eq_true_eq] at hs
          obtain ⟨⟨c1, c2⟩, c3⟩ := hs
          exact PS.imp (ps_setDc c.calm c.nd (by rw [c.hN]; exact h3) c1 (sw_trueD (of_decide_eq_true h7) c1 c2 c3) b1 b2 b3 b4 b5 b6 (notSet_folded b7)) fun D σ H q => b8 σ H _ (fin D σ H q)
        · rename_i own elt tg k its ifs tg1 k1 its1 ifs1
          obtain ⟨elt', tg', it', tg1', it1', ifs', ifs1', scope, q, wi, wi1, g, g1, tt, tt1, te, rfl, b1, b2, bv, b3, b4, b5, b6, b7, b8, b9, b10, b11⟩ := lc2_parts (se elt) (fun e he => se e) (ses its) (fun e he => st e) (fun e he => se e) (ses its1) (fun e he => st e) c h1
          have hs : swB X.env.scope y py (.ListComp elt' [⟨tg', it', ifs', 0⟩, ⟨tg1', it1', ifs1', 0⟩] scope q) = true := by simpa using hs
          simp only [swB, Bool.and_eq_true, Bool.not_eq_true', decide_eq_true_eq] at hs
          obtain ⟨⟨c1, c2⟩, c3⟩ := hs
          exact PS.imp (ps_setLc2 c.calm c.nd (by rw [c.hN]; exact h3) c1 (sw_true (of_decide_eq_true h7) c1 c2 c3) b1 b2 bv b3 b4 b5 b6 b7 b8 (notSet_folded b9) fun env => notSet_folded b10) fun D σ H q => b11 σ H _ (fin D σ H q)
        · rename_i own k its
          obtain ⟨kx, vx, tg', it', ifs', rest, scope, q, wi, rfl, b1, b2, b3, b4⟩ := dcE_parts (fun e he => se e) (ses its) c h1
          have hs : swB X.env.scope y py (.DictComp kx vx (⟨tg', it', ifs', 0⟩ :: rest) scope q) = true := by simpa using hs
          simp only [swB, Bool.and_eq_true, Bool.not_eq_true', decide_eq_true_eq] at hs
          obtain ⟨⟨c1, c2⟩, c3⟩ := hs
          exact PS.imp (ps_setDcE c.calm c.nd (by rw [c.hN]; exact h3) c1 (sw_trueD (of_decide_eq_true h7) c1 c2 c3) b1 b2 (notSet_folded b3)) fun D σ H q => b4 σ H _ (fin D σ H q)
  | tup ts =>
    simp only [Bool.and_eq_true] at h2
    obtain ⟨xs, k, q, rfl⟩ := tg_tup_shape h2.1
    refine PS.imp (ps_asg (se e X _ c h1) (sg_tg (.tup ts) c ⟨fun x _ => xp.fn x⟩ h2.1) sw_tup (sw_stores' h2.2) rfl) fun D σ H q => ?_
    obtain ⟨B, s, f, s', hv, F, en, k⟩ := q
    obtain ⟨r, s1, g1, w1⟩ := bind_inv hv
    obtain ⟨d, s2, g2, w2⟩ := bind_inv w1
    obtain ⟨_, s3, g3, w3⟩ := bind_inv w2
    obtain ⟨rfl, rfl⟩ := pure_inv w3
    have e2 := fz_same g2
    subst e2
    refine tU_good g1 en fun v H' F' q1 e1 rv => ?_
    obtain ⟨_, rd⟩ := fz_ok rv g2
    exact ⟨B, F', _, d, s', e1, .inl rd, g3, fun σ2 e4 _ _ => k σ2 H' F' q1 e4⟩
/-! ### popped; a place and a name at once -/
theorem sw_far {x : Expr} {xs : List Expr} {k : Nat} {q : Pos} {v : Expr} {env : PySem.Env} (hx : ∀ id p, x ≠ .Name id p) : swappedStores [.Tuple (x :: xs) k q] v env = pure none := by
  have far : ∀ (l : Nat), ((x :: xs).filterMap fun | .Name id pos => if env.kindOf id == some .local && pos.line == l then some id else none | _ => none).length ≠ (x :: xs).length := fun l => by
    rw [List.filterMap_cons]
    have le := List.length_filterMap_le (fun x => match x with | Expr.Name id pos => if env.kindOf id == some .local && pos.line == l then some id else none | _ => none) xs
    rw [List.length_cons]
    cases x <;> first | (exact absurd rfl (hx _ _)) | (dsimp only; omega)
  cases v <;> first | rfl | skip
  rename_i vs k2 q2
  have hn := far ((Option.map (fun x => x.pos.line) (x :: xs).head?).getD 0)
  unfold swappedStores
  dsimp only
  repeat' split
  all_goals first
    | rfl
    | (exfalso; rename_i hh; simp only [Bool.or_eq_true, bne_iff_ne, ne_eq, not_or, Classical.not_not] at hh; exact hn hh.1)
    | (exfalso; rename_i hh _; simp only [Bool.or_eq_true, bne_iff_ne, ne_eq, not_or, Classical.not_not] at hh; exact hn hh.1)
    | (exfalso; rename_i hh _ _; simp only [Bool.or_eq_true, bne_iff_ne, ne_eq, not_or, Classical.not_not] at hh; exact hn hh.1)
theorem tg_name_shape {S : Sx} {sc : Scope} {own : Str → Bool} {i : Nat} {x : Expr} (h : chkT S sc own (.name i) x = true) : ∃ y q, x = .Name y q := by
  simp only [chkT] at h
  split at h
  · exact ⟨_, _, rfl⟩
  · cases h
theorem ss_subN {a : Nat} {k : E} {i : Nat} {es : List E} : SS p γ n S (.subN a k i es) := fun X x c xp h => by
  simp only [chkS] at h
  split at h
  case h_2 => cases h
  rename_i o ix tpos tg k1 pt v pos
  simp only [Bool.and_eq_true] at h
  obtain ⟨⟨⟨⟨h1, h2⟩, h3⟩, h4⟩, h5⟩ := h
  obtain ⟨y, yq, rfl⟩ := tg_name_shape h4
  have st : [Expr.Subscript o ix tpos, .Name y yq].all notStar = true := rfl
  have i1 := pgs_cons (pg_one (tpos := tpos) c h1 h2 h3) (pgs_cons (sg_tg (.name i) c ⟨fun x _ => xp.fn x⟩ h4) pgs_nil rfl) rfl
  refine PS.imp (ps_asg (se (.tup es) X _ c h5) (pg_tup (n := 2) c.calm i1 (asg_len st) (asg_find st)) sw_tup (sw_far (fun _ _ z => by cases z)) rfl) fun D σ H q => ?_
  obtain ⟨B, s, f, s', hv, F, en, kk⟩ := q
  obtain ⟨r, s1, g1, w1⟩ := bind_inv hv
  obtain ⟨d, s2, g2, w2⟩ := bind_inv w1
  have e2 := fz_same g2
  subst e2
  refine tU_good g1 en fun vv H1 F1 q1 e1 rv => ?_
  obtain ⟨_, rd⟩ := fz_ok rv g2
  split at w2
  case h_2 => cases w2
  rename_i v1 v2
  obtain ⟨_, s3, g3, w3⟩ := bind_inv w2
  obtain ⟨_, s4, g4, w4⟩ := bind_inv w3
  obtain ⟨rfl, rfl⟩ := pure_inv w4
  cases rd with
  | tup ha hb =>
    obtain ⟨x1, ws, rfl, r1, r2⟩ := hb.cons_inv
    obtain ⟨x2, ws2, rfl, r3, r4⟩ := r2.cons_inv
    obtain rfl := r4.nil_inv
    exact ⟨_, _, rfl, SqT.sub e1.fh ha.sqt, rfl, x1, [x2], rfl, B, F1, _, v1, s3, e1, r1, g3, fun H2 F2 q2 e2 => ⟨x2, [], rfl, B, F2, s3, v2, _, e2, .inl (Rp.sub q2 r3), g4, fun σ3 e3 _ _ => ⟨rfl, kk σ3 H2 F2 (q1.trans q2) e3⟩⟩⟩
theorem ss_popA {i j : Nat} : SS p γ n S (.popA i j) := fun X x c xp h => by
  simp only [chkS] at h
  split at h
  case h_2 => cases h
  rename_i y py o nm apos cpos pos
  simp only [Bool.and_eq_true, decide_eq_true_eq] at h
  obtain ⟨⟨⟨⟨⟨rfl, h2⟩, h3⟩, h4⟩, h5⟩, h6⟩ := h
  refine PS.imp (ps_set c.nd (by rw [c.hN]; exact h5) (locB_ok h6) (pe_bm0 PySem.F.plainAttrs_list PySem.F.slot_list_pop PySem.F.type_list_pop mt_pop (se (.peek j) X _ c h2) (baseOk_base h3) (by rw [h4]; exact beq_self_eq_true _)) (sw_name rfl rfl) (.inl (xp.fn _))) fun D σ H q => ?_
  obtain ⟨B, s, f, s', hv, F, en, k⟩ := q
  obtain ⟨u0, s0, g0, w0⟩ := bind_inv hv
  obtain ⟨e0, x0, hx0, ox0, hd0⟩ := ownVal_inv g0
  subst e0
  cases u0 <;> first | (cases w0; done) | skip
  rename_i ds
  cases hd : ds[ds.length - 1]? with
  | none =>
    have w0 : (match ds[ds.length - 1]? with
      | some y => do setSlot j (.list ds.dropLast); store i (.frz y); pure .next
      | none => M.stuck : M Flow) s0 = .ok f s' := w0
    rw [hd] at w0
    cases w0
  | some d =>
  have w0 : (match ds[ds.length - 1]? with
    | some y => do setSlot j (.list ds.dropLast); store i (.frz y); pure .next
    | none => M.stuck : M Flow) s0 = .ok f s' := w0
  rw [hd] at w0
  obtain ⟨_, s1, g1, w1⟩ := bind_inv w0
  obtain ⟨_, s2, g2, w2⟩ := bind_inv w1
  obtain ⟨rfl, rfl⟩ := pure_inv w2
  refine ⟨B, _, .slot j, _, peek_own (F := F) (H := H) (σ := σ) (B := B) hx0 ox0, F, en, fun ov H1 F1 q1 e1 ro => ?_⟩
  have ro : σ[j]? = some (some ov) := ro
  obtain ⟨a, vs0, a1, a2, a3⟩ := e1.ownList hx0 ox0 hd0
  rw [a1] at ro
  injection ro with ro
  injection ro with ro
  subst ro
  have e8 := setSlot_inv hx0 g1
  subst e8
  have hl := a3.length
  obtain ⟨w, hw, rw'⟩ := a3.get hd
  refine ⟨.inl ⟨rfl, vs0, .inl (.inl a2)⟩, a, vs0, w, rfl, rfl, a2, by rw [hl]; exact hw, ?_⟩
  have a4 : RpAll X.K F1 vs0.dropLast ds.dropLast := by
    rw [List.dropLast_eq_take, List.dropLast_eq_take, hl]
    exact a3.take _
  have e9 := e1.write hx0 ox0 a1 a4
  exact k _ _ F1 q1 (store_env e9 g2 rw')
end
end Ev

/-! Ev22: several names at once, loops. -/
namespace Ev
open PySem PySem.Spec L2
section
variable {p : Prg} {n : Nat} {S : Sx} {K : Frag} {γ : Gt} {c : Cf}
/-- results at hand, the new ones held -/
inductive Held (K : Frag) (F : Hp) : Bs → List V → List Rv → Bs → Prop
  | nil {B : Bs} : Held K F B [] [] B
  | frz {B B' : Bs} {v : V} {d : PV} {vs : List V} {rs : List Rv} : Rp K F v d → Held K F B vs rs B' → Held K F B (v :: vs) (.frz d :: rs) B'
  | own {B B' : Bs} {a : Addr} {d : PV} {vs : List V} {rs : List Rv} : Held K F (B.with a d) vs rs B' → Held K F B (.ref a :: vs) (.own d :: rs) B'
def tP (K : Frag) (γ : Gt) (c : Cf) (es : List E) : TA := fun σ H Q => ∃ B s rs s', evPar c es s = .ok rs s' ∧ ∃ F, EnvR K γ B F H σ s ∧ ∀ vs H' F' B', Sub F F' → EnvR K γ B' F' H' σ s' → Held K F' B vs rs B' → Q vs H'
theorem sp_all : ∀ {es : List E} {X : Cx} {xs : List Expr}, XC p γ n S X → chks S X.env.scope es xs = true → xs.all notStar = true → PA X xs (tP X.K γ (p.cf n) es)
  | [], X, xs, c, h, hn => by
    cases xs with
    | nil =>
      refine PA.imp pa_nil fun σ H Q q => ?_
      obtain ⟨B, s, rs, s', hv, F, en, k⟩ := q
      obtain ⟨rfl, rfl⟩ := pure_inv hv
      exact k [] H F B (Sub.refl F) en .nil
    | cons y ys => simp [chks] at h
  | e :: es, X, xs, c, h, hn => by
    cases xs with
    | nil => simp [chks] at h
    | cons y ys =>
      simp only [chks, Bool.and_eq_true] at h
      rw [List.all_cons, Bool.and_eq_true] at hn
      refine PA.imp (pa_cons (se e X _ c h.1) (sp_all c h.2 hn.2) (star_cons hn.1)) fun σ H Q q => ?_
      obtain ⟨B, s, rs, s', hv, F, en, k⟩ := q
      obtain ⟨r1, s1, g1, w1⟩ := bind_inv hv
      refine ⟨B, s, r1, s1, g1, F, en, fun v H1 F1 q1 e1 rv => ?_⟩
      cases r1 with
      | slot i => cases w1
      | frz d =>
        obtain ⟨rs1, s2, g2, w2⟩ := bind_inv w1
        obtain ⟨rfl, rfl⟩ := pure_inv w2
        exact ⟨B, s1, rs1, _, g2, F1, e1, fun vs H2 F2 B2 q2 e2 hl => k (v :: vs) H2 F2 B2 (q1.trans q2) e2 (.frz (Rp.sub q2 rv) hl)⟩
      | own d =>
        obtain ⟨rs1, s2, g2, w2⟩ := bind_inv w1
        obtain ⟨rfl, rfl⟩ := pure_inv w2
        have rv0 := rv
        obtain ⟨a, rfl, _⟩ := rv0
        exact ⟨B.with a d, s1, rs1, _, g2, F1, e1.hold rv, fun vs H2 F2 B2 q2 e2 hl => k (.ref a :: vs) H2 F2 B2 (q1.trans q2) e2 (.own hl)⟩
/-- stored from the right -/
def setsR : L2.St → List Nat → List V → L2.St
  | σ, i :: is, v :: vs => (setsR σ is vs).set i (some v)
  | σ, _, _ => σ
theorem storeAll_ok {F H : Hp} {B B' : Bs} {vs : List V} {rs : List Rv} (hl : Held K F B vs rs B') : ∀ {is : List Nat} {σ : L2.St} {s s' : Env}, EnvR K γ B' F H σ s → storeAll is rs s = .ok () s' → EnvR K γ B F H (setsR σ is vs) s' := by
  induction hl with
  | nil =>
    intro is σ s s' en h
    cases is with
    | nil => obtain ⟨_, rfl⟩ := pure_inv h; exact en
    | cons i is => cases h
  | frz rd hl ih =>
    intro is σ s s' en h
    cases is with
    | nil => cases h
    | cons i is =>
      obtain ⟨_, s1, g1, w1⟩ := bind_inv h
      exact store_env (ih en g1) w1 rd
  | own hl ih =>
    intro is σ s s' en h
    cases is with
    | nil => cases h
    | cons i is =>
      obtain ⟨_, s1, g1, w1⟩ := bind_inv h
      obtain ⟨e2, r2⟩ := (ih en g1).unhold
      exact store_env e2 w1 r2
theorem kind_loc {env : PySem.Env} {x : Str} (h : env.scope.names.lookup x = some .local) : (env.kindOf x == some .local) = true := by
  unfold Env.kindOf
  rw [h]
  rfl
theorem blk_fun {env : PySem.Env} (h : funK env.scope = true) : (env.blockKind != .function) = false := by
  have h : env.scope.kind = .function := of_decide_eq_true h
  unfold Env.blockKind
  rw [h]
  rfl
theorem any_star {vs : List Expr} (h : vs.all notStar = true) : (vs.any fun | .Starred .. => true | _ => false) = false := by
  induction vs with
  | nil => rfl
  | cons v vs ih =>
    rw [List.all_cons, Bool.and_eq_true] at h
    rw [List.any_cons, ih h.2, Bool.or_false]
    cases v <;> first | rfl | cases h.1
theorem swap2 {x y : Str} {px py pt pv : Pos} {a b : Expr} {k1 k2 : Nat} {env : PySem.Env} (hf : funK env.scope = true) (hx : env.scope.names.lookup x = some .local) (hy : env.scope.names.lookup y = some .local) (hl : (py.line == px.line) = true) (hxy : x ≠ y)
    (hn : [a, b].all notStar = true) (h1 : [a, b].all (foldedForSure 8) = false) (h2 : [a, b].all (constantsAlone 8) = false) : swappedStores [.Tuple [.Name x px, .Name y py] k1 pt] (.Tuple [a, b] k2 pv) env = pure (some [x, y]) := by
  unfold swappedStores
  have hd : [x, y].eraseDups.length = 2 := by
    have e1 : (y == x) = false := beq_eq_false_iff_ne.mpr hxy.symm
    simp [List.eraseDups, List.eraseDupsBy, List.eraseDupsBy.loop, e1]
  simp only [List.length_cons, List.length_nil, List.filterMap_cons, List.filterMap_nil, kind_loc hx, kind_loc hy, any_star hn, blk_fun hf, h1, h2, List.head?_cons, Option.map_some, Option.getD_some, Expr.pos, hl, beq_self_eq_true, Bool.and_self, if_true, hd]
  rw [if_neg (by decide)]
  split
  · rename_i hh
    exact absurd ((any_star hn).symm.trans hh) Bool.false_ne_true
  · rw [if_neg (by decide), if_neg Bool.false_ne_true, if_neg Bool.false_ne_true]
theorem swap3 {x y z : Str} {px py pz pt pv : Pos} {a b d : Expr} {k1 k2 : Nat} {env : PySem.Env} (hf : funK env.scope = true) (hx : env.scope.names.lookup x = some .local) (hy : env.scope.names.lookup y = some .local) (hz : env.scope.names.lookup z = some .local)
    (hl : (py.line == px.line) = true) (hl2 : (pz.line == px.line) = true) (hxy : x ≠ y) (hxz : x ≠ z) (hyz : y ≠ z)
    (hn : [a, b, d].all notStar = true) (h1 : [a, b, d].all (foldedForSure 8) = false) (h2 : [a, b, d].all (constantsAlone 8) = false) : swappedStores [.Tuple [.Name x px, .Name y py, .Name z pz] k1 pt] (.Tuple [a, b, d] k2 pv) env = pure (some [x, y, z]) := by
  unfold swappedStores
  have hd : [x, y, z].eraseDups.length = 3 := by
    have e1 : (y == x) = false := beq_eq_false_iff_ne.mpr hxy.symm
    have e2 : (z == x) = false := beq_eq_false_iff_ne.mpr hxz.symm
    have e3 : (z == y) = false := beq_eq_false_iff_ne.mpr hyz.symm
    simp [List.eraseDups, List.eraseDupsBy, List.eraseDupsBy.loop, e1, e2, e3]
  simp only [List.length_cons, List.length_nil, List.filterMap_cons, List.filterMap_nil, kind_loc hx, kind_loc hy, kind_loc hz, any_star hn, blk_fun hf, h1, h2, List.head?_cons, Option.map_some, Option.getD_some, Expr.pos, hl, hl2, beq_self_eq_true, Bool.and_self, if_true, hd]
  rw [if_neg (by decide)]
  split
  · rename_i hh
    exact absurd ((any_star hn).symm.trans hh) Bool.false_ne_true
  · rw [if_neg (by decide), if_neg Bool.false_ne_true, if_neg Bool.false_ne_true]
def setsL : L2.St → List Nat → List V → L2.St
  | σ, i :: is, v :: vs => setsL (σ.set i (some v)) is vs
  | σ, _, _ => σ
theorem setsL_set {i : Nat} {v : V} : ∀ {is : List Nat} {σ : L2.St} {vs : List V}, i ∉ is → setsL (σ.set i (some v)) is vs = (setsL σ is vs).set i (some v)
  | [], σ, vs, _ => by cases vs <;> rfl
  | j :: is, σ, [], _ => rfl
  | j :: is, σ, w :: vs, h => by
    simp only [List.mem_cons, not_or] at h
    show setsL ((σ.set i (some v)).set j (some w)) is vs = (setsL (σ.set j (some w)) is vs).set i (some v)
    rw [List.set_comm _ _ h.1, setsL_set h.2]
theorem setsL_eq : ∀ {is : List Nat} {σ : L2.St} {vs : List V}, is.Nodup → setsL σ is vs = setsR σ is vs
  | [], σ, vs, _ => by cases vs <;> rfl
  | j :: is, σ, [], _ => rfl
  | j :: is, σ, w :: vs, h => by
    obtain ⟨h1, h2⟩ := List.nodup_cons.mp h
    show setsL (σ.set j (some w)) is vs = (setsR σ is vs).set j (some w)
    rw [setsL_set h1, setsL_eq h2]
theorem pgs_names {X : Cx} (c : XC p γ n S X) (xp : ∀ x, X.fn x = true) : ∀ (is : List Nat) (ts : List Expr), namesB S X.env.scope is ts = true → PGs X ts (fun vs σ H Q => vs.length = is.length ∧ Q (setsL σ is vs) H) ∧ ts.all notStar = true ∧ ts.length = is.length
  | [], ts, h => by
    cases ts with
    | cons t ts => cases h
    | nil => exact ⟨⟨fun pins s σ H vs us Q I r q => by
        obtain ⟨q1, q2⟩ := q
        obtain rfl := List.eq_nil_of_length_eq_zero q1
        exact pgs_nil.run pins s σ H [] us Q I r ⟨rfl, q2⟩⟩, rfl, rfl⟩
  | i :: is, ts, h => by
    cases ts with
    | nil => cases h
    | cons t ts =>
      unfold namesB at h
      split at h
      case h_2 => cases h
      rename_i y py ys hxs
      cases hxs
      simp only [Bool.and_eq_true, decide_eq_true_eq] at h
      obtain ⟨⟨h1, h2⟩, h3⟩ := h
      obtain ⟨i1, i2, i3⟩ := pgs_names c xp is _ h3
      refine ⟨⟨fun pins s σ H vs us Q I r q => ?_⟩, by rw [List.all_cons, i2]; rfl, by rw [List.length_cons, List.length_cons, i3]⟩
      refine (pgs_cons (pg_name c.nd (by rw [c.hN]; exact h1) (locB_ok h2) (.inl (xp y))) i1 rfl).run pins s σ H vs us Q I r ?_
      obtain ⟨q1, q2⟩ := q
      cases vs with
      | nil => cases q1
      | cons v vs => exact ⟨v, vs, rfl, by simpa using q1, q2⟩
theorem ss_par {is : List Nat} {es : List E} : SS p γ n S (.par is es) := fun X x c xp h => by
  simp only [chkS] at h
  split at h
  case h_2 => cases h
  rename_i ts k1 pt vs k2 pv pos
  simp only [Bool.and_eq_true] at h
  obtain ⟨⟨⟨h1, h2⟩, h3⟩, h4⟩ := h
  have fin : ∀ (D : Ends) (σ : L2.St) (H : Hp), tS X.K γ (p.cf n) (.par is es) D σ H → tP X.K γ (p.cf n) es σ H fun ws H1 => ws.length = is.length ∧ D.nx (setsR σ is ws) H1 := fun D σ H q => by
    obtain ⟨B, s, f, s', hv, F, en, k⟩ := q
    obtain ⟨rs, s1, g1, w1⟩ := bind_inv hv
    obtain ⟨_, s2, g2, w2⟩ := bind_inv w1
    obtain ⟨rfl, rfl⟩ := pure_inv w2
    refine ⟨B, s, rs, s1, g1, F, en, fun ws H' F' B' q1 e1 hl => ⟨?_, k _ H' F' q1 (storeAll_ok hl e1 g2)⟩⟩
    have l1 : ∀ {is : List Nat} {rs : List Rv} {s s' : Env}, storeAll is rs s = .ok () s' → rs.length = is.length := fun {is} => by
      induction is with
      | nil => intro rs s s' h; cases rs with
        | nil => rfl
        | cons r rs => cases h
      | cons i is ih => intro rs s s' h; cases rs with
        | nil => cases h
        | cons r rs =>
          obtain ⟨_, t, u1, _⟩ := bind_inv h
          rw [List.length_cons, List.length_cons, ih u1]
    have l2 : ∀ {B B' : Bs} {vs : List V} {rs : List Rv}, Held X.K F' B vs rs B' → vs.length = rs.length := fun {B B' vs rs} h => by
      induction h with
      | nil => rfl
      | frz _ _ ih => simp [ih]
      | own _ ih => simp [ih]
    rw [l2 hl, l1 g2]
  rw [Bool.or_eq_true] at h1
  rcases h1 with h1 | h1
  rotate_left
  · simp only [Bool.and_eq_true, decide_eq_true_eq] at h1
    obtain ⟨⟨⟨i1, i2⟩, i3⟩, i4⟩ := h1
    obtain ⟨j1, j2, j3⟩ := pgs_names c (fun x => xp.fn x) is ts i1
    refine PS.imp (ps_asg (pe_tup (sp_all c h2 h3)) (pg_tup (n := ts.length) c.calm j1 (asg_len j2) (asg_find j2)) sw_tup (sw_stores' (by rw [Bool.or_eq_true]; exact .inr i2)) rfl) fun D σ H q => ?_
    obtain ⟨B, s, rs, s', g, F, en, k⟩ := fin D σ H q
    refine ⟨B, s, rs, s', g, F, en, fun ws H' F' B' q1 e1 hl => ?_⟩
    obtain ⟨lw, _⟩ := k ws H' F' B' q1 e1 hl
    refine ⟨by rw [lw, ← lim_eq]; unfold lim; omega, fun a ha => ?_⟩
    obtain ⟨_, q2⟩ := k ws _ F' B' q1 (e1.grow (Grow.own (o := .tup ws) e1.fh ha)) hl
    exact ⟨a, ws, rfl, .inl (.inl upd_same), by rw [lw, j3], lw, by rw [setsL_eq i3]; exact q2⟩
  unfold parB at h1
  split at h1
  · rename_i i j x px y py a b
    simp only [Bool.and_eq_true, decide_eq_true_eq, Bool.not_eq_true'] at h1
    obtain ⟨⟨⟨⟨⟨⟨⟨⟨i1, i2⟩, i3⟩, i4⟩, i5⟩, i6⟩, i7⟩, i8⟩, i9⟩ := h1
    refine PS.imp (ps_par c.calm c.nd (by rw [c.hN]; exact i1) (by rw [c.hN]; exact i2) i3 i5 i6 (sp_all c h2 h3) (swap2 h4 i5 i6 i7 i4 h3 i8 i9) rfl) fun D σ H q => ?_
    obtain ⟨B, s, rs, s', g, F, en, k⟩ := fin D σ H q
    refine ⟨B, s, rs, s', g, F, en, fun ws H' F' B' q1 e1 hl => ?_⟩
    obtain ⟨lw, q2⟩ := k ws H' F' B' q1 e1 hl
    match ws, lw, q2 with
    | [v, w], _, q2 =>
      refine ⟨v, w, rfl, ?_⟩
      have q2 : D.nx ((σ.set j (some w)).set i (some v)) H' := q2
      rw [List.set_comm _ _ i3]
      exact q2
  · rename_i i j l x px y py z pz a b d
    simp only [Bool.and_eq_true, decide_eq_true_eq, Bool.not_eq_true'] at h1
    obtain ⟨⟨⟨⟨⟨⟨⟨⟨⟨⟨⟨⟨⟨⟨⟨i1, i2⟩, i3⟩, i4⟩, i5⟩, i6⟩, i7⟩, i8⟩, i9⟩, j1⟩, j2⟩, j3⟩, j4⟩, j5⟩, j6⟩, j7⟩ := h1
    refine PS.imp (ps_par3 c.calm c.nd (by rw [c.hN]; exact i1) (by rw [c.hN]; exact i2) (by rw [c.hN]; exact i3) i4 i5 i6 j1 j2 j3 (sp_all c h2 h3) (swap3 h4 j1 j2 j3 j4 j5 i7 i8 i9 h3 j6 j7) rfl) fun D σ H q => ?_
    obtain ⟨B, s, rs, s', g, F, en, k⟩ := fin D σ H q
    refine ⟨B, s, rs, s', g, F, en, fun ws H' F' B' q1 e1 hl => ?_⟩
    obtain ⟨lw, q2⟩ := k ws H' F' B' q1 e1 hl
    match ws, lw, q2 with
    | [u, v, w], _, q2 =>
      refine ⟨u, v, w, rfl, ?_⟩
      have q2 : D.nx (((σ.set l (some w)).set j (some v)).set i (some u)) H' := q2
      rw [List.set_comm _ _ i4, List.set_comm _ _ i5, List.set_comm _ _ i6] 
      exact q2
  · cases h1
end
end Ev

/-! Ev23: loops, every statement. -/
namespace Ev
open PySem PySem.Spec L2
section
variable {p : Prg} {n : Nat} {S : Sx} {K : Frag} {γ : Gt} {c : Cf}
/-- one turn of a for -/
def turn (c : Cf) (tg : Tg) (body : List Stm) : PV → M Flow := fun x => do bindT tg x; evSs c body
/-- a loop's outcome, turn by turn -/
theorem out_cons {step : PV → M Flow} {x : PV} {xs : List PV} {s : Ev.Env} {B : Bs} {W : WX} {D : Ends} {F : Hp} (h : OutQ K γ B W D (forLoop step (x :: xs) s) F) :
    OutQ K γ B W ⟨fun σ' H' => ∃ F3 s3, EnvR K γ B F3 H' σ' s3 ∧ Sub F F3 ∧ OutQ K γ B W D (forLoop step xs s3) F3, D.rt, fun σ' H' => D.nx σ' H', fun σ' H' => ∃ F3 s3, EnvR K γ B F3 H' σ' s3 ∧ Sub F F3 ∧ OutQ K γ B W D (forLoop step xs s3) F3⟩ (step x s) F := by
  have h : OutQ K γ B W D ((step x s).andThen fun f => match f with
    | .next => forLoop step xs
    | .cont => forLoop step xs
    | .brk => pure .next
    | .ret r => pure (.ret r)) F := h
  cases e : step x s with
  | stuck => rw [e] at h; exact h
  | exc k v => rw [e] at h; exact h
  | ok f s1 =>
    rw [e] at h
    intro σ' H' F' q1 e1
    cases f with
    | next => exact ⟨F', s1, e1, q1, OutQ.sub h q1⟩
    | cont => exact ⟨F', s1, e1, q1, OutQ.sub h q1⟩
    | brk => exact (show OutQ K γ B W D (.ok .next s1) F from h) σ' H' F' q1 e1
    | ret r => exact (show OutQ K γ B W D (.ok (.ret r) s1) F from h) σ' H' F' q1 e1
theorem OutQ.imp {B : Bs} {W : WX} {D D' : Ends} {o : RE Flow} {F : Hp} (h : OutQ K γ B W D o F) (n : ∀ σ H, D.nx σ H → D'.nx σ H) (r : ∀ v H, D.rt v H → D'.rt v H) (b : ∀ σ H, D.bk σ H → D'.bk σ H) (c : ∀ σ H, D.ct σ H → D'.ct σ H) : OutQ K γ B W D' o F := by
  cases o with
  | stuck => exact h
  | exc k v => exact h
  | ok f s' =>
    intro σ' H' F' q e
    have := h σ' H' F' q e
    cases f with
    | next => exact n _ _ this
    | brk => exact b _ _ this
    | cont => exact c _ _ this
    | ret rv => exact fun v hv => r _ _ (this v hv)
theorem ssx_loop {tg : Tg} {k : ItK} {its : List E} {body : List Stm} (hb : SSsX p γ n S body) : SSX p γ n S (.loop tg k its body) := fun X W x c xp tk h => by
  simp only [chkS] at h
  split at h
  case h_2 => cases h
  rename_i tg' it' body' pos
  simp only [Bool.and_eq_true] at h
  obtain ⟨⟨⟨h1, h2⟩, h3⟩, h4⟩ := h
  split at h3
  case h_2 => cases h3
  rename_i ys hy
  have wi := si_all (k := k) (fun e he => se e) (ses its) c hy h3
  refine PS.imp (ps_for xp.pass c.calm wi (sg_tg tg c ⟨fun x _ => xp.fn x⟩ h1) (hb X W body' c xp tk h4) (notSet_folded h2)) fun D σ H q => ?_
  obtain ⟨B, s, F, en, kk⟩ := q
  have kk : OutQ X.K γ B W D ((evs (p.cf n) its s).andThen fun rs s1 => (fzs rs s1).andThen fun vs s2 => (M.opt (items k vs) s2).andThen fun xs => forLoop (turn (p.cf n) tg body) xs) F := kk
  cases g1 : evs (p.cf n) its s with
  | stuck => rw [g1] at kk; exact kk.elim
  | exc k' v => exact (nx_evs its s k' v g1).elim
  | ok rs s1 =>
  rw [g1] at kk
  have kk1 : OutQ X.K γ B W D ((fzs rs s1).andThen fun vs s2 => (M.opt (items k vs) s2).andThen fun xs => forLoop (turn (p.cf n) tg body) xs) F := kk
  clear kk
  cases g2 : fzs rs s1 with
  | stuck => rw [g2] at kk1; exact kk1.elim
  | exc k' v => exact (nx_fzs rs s1 k' v g2).elim
  | ok ds s2 =>
  rw [g2] at kk1
  have kk2 : OutQ X.K γ B W D ((M.opt (items k ds) s2).andThen fun xs => forLoop (turn (p.cf n) tg body) xs) F := kk1
  clear kk1
  cases g3' : items k ds with
  | none => rw [g3'] at kk2; exact kk2.elim
  | some xs =>
  rw [g3'] at kk2
  have kk3 : OutQ X.K γ B W D (forLoop (turn (p.cf n) tg body) xs s2) F := kk2
  clear kk2
  have e2 : s2 = s1 := fzs_same g2
  subst e2
  refine ⟨B, s, rs, s2, ds, xs, g1, g2, g3', F, en, fun J H1 F1 q1 e1 wd => ?_⟩
  refine ⟨fun i m σ2 H => m = xs.length - i ∧ i ≤ xs.length ∧ ∃ F2 s2, EnvR X.K γ B F2 H σ2 s2 ∧ Sub F1 F2 ∧ OutQ X.K γ B W D (forLoop (turn (p.cf n) tg body) (xs.drop i) s2) F2, ⟨xs.length, by simp, Nat.zero_le _, F1, s2, e1, Sub.refl F1, by rw [List.drop_zero]; exact OutQ.sub kk3 q1⟩, ?_⟩
  rintro i m σ1 H ⟨rfl, hi, F2, s2, e2, sub2, hloop⟩
  have s12 : Sub F1 H := sub2.trans e2.fh
  by_cases hlt : i < xs.length
  · right
    refine ⟨wd.go i H hlt s12, fun σ' H' => i + 1 ≤ xs.length ∧ ∃ F3 s3, EnvR X.K γ B F3 H' σ' s3 ∧ Sub F1 F3 ∧ OutQ X.K γ B W D (forLoop (turn (p.cf n) tg body) (xs.drop (i + 1)) s3) F3, fun σ' H' hn => ⟨xs.length - (i + 1), by omega, rfl, hn.1, hn.2⟩, fun x H' hy' => ?_⟩
    obtain ⟨F3, d, g, hd, rd⟩ := wd.yld i F2 H x H' hlt sub2 e2.fh hy'
    rw [drop_cons hd] at hloop
    have v1 := out_cons hloop
    have v2 : OutQ X.K γ B W ⟨fun σ' H' => ∃ F3 s3, EnvR X.K γ B F3 H' σ' s3 ∧ Sub F2 F3 ∧ OutQ X.K γ B W D (forLoop (turn (p.cf n) tg body) (xs.drop (i + 1)) s3) F3, D.rt, fun σ' H' => D.nx σ' H', fun σ' H' => ∃ F3 s3, EnvR X.K γ B F3 H' σ' s3 ∧ Sub F2 F3 ∧ OutQ X.K γ B W D (forLoop (turn (p.cf n) tg body) (xs.drop (i + 1)) s3) F3⟩ ((bindT tg d s2).andThen fun _ => evSs (p.cf n) body) F2 := v1
    clear v1
    cases f3 : bindT tg d s2 with
    | stuck => rw [f3] at v2; exact v2.elim
    | exc k' v => exact (nx_bindT tg d s2 k' v f3).elim
    | ok u t2 =>
    rw [f3] at v2
    refine ⟨B, F3, s2, d, t2, e2.grow g, rd.mono (kind_tup hy h1), f3, fun σ2 e4 l4 o4 => ?_⟩
    refine ⟨B, t2, F3, e4, ?_⟩
    have v3 : OutQ X.K γ B W _ (evSs (p.cf n) body t2) F3 := OutQ.sub (show OutQ X.K γ B W _ (evSs (p.cf n) body t2) F2 from v2) g.ff
    refine OutQ.imp v3 (fun σ' H' hh => ?_) (fun v H' hh => hh) (fun σ' H' hh => hh) fun σ' H' hh => ?_
    · obtain ⟨F4, s4, a1, a2, a3⟩ := hh
      exact ⟨hlt, F4, s4, a1, sub2.trans a2, a3⟩
    · obtain ⟨F4, s4, a1, a2, a3⟩ := hh
      exact ⟨hlt, F4, s4, a1, sub2.trans a2, a3⟩
  · left
    have ei : i = xs.length := by omega
    subst ei
    refine ⟨wd.stop H s12, ?_⟩
    rw [List.drop_length] at hloop
    exact (show OutQ X.K γ B W D (.ok .next s2) F2 from hloop) σ1 H F2 (Sub.refl F2) e2
/-- a while's test -/
def wTest (c : Cf) (t : E) : M Bool := do let x ← ev c t; let u ← opd x; M.opt (truth u)
theorem ssx_whl {t : E} {body : List Stm} (hb : SSsX p γ n S body) : SSX p γ n S (.whl t body) := fun X W x c xp tk h => by
  simp only [chkS] at h
  split at h
  case h_2 => cases h
  rename_i c' body' pos
  rw [Bool.and_eq_true] at h
  refine PS.imp (ps_while xp.pass (st t X _ c h.1) (hb X W body' c xp tk h.2)) fun D σ H q => ?_
  obtain ⟨B, s, F, en, kk⟩ := q
  have kk : OutQ X.K γ B W D (whileLoop (wTest (p.cf n) t) (evSs (p.cf n) body) fuel s) F := kk
  refine ⟨fun m σ2 H => ∃ F2 s2, EnvR X.K γ B F2 H σ2 s2 ∧ Sub F F2 ∧ OutQ X.K γ B W D (whileLoop (wTest (p.cf n) t) (evSs (p.cf n) body) m s2) F2, ⟨fuel, F, s, en, Sub.refl F, kk⟩, ?_⟩
  rintro m σ1 H ⟨F2, s2, e2, sub2, hloop⟩
  cases m with
  | zero => exact hloop.elim
  | succ m =>
    have v0 : OutQ X.K γ B W D ((ev (p.cf n) t s2).andThen fun x s3 => (opd x s3).andThen fun u s4 => (M.opt (truth u) s4).andThen fun b s5 => (if b then (do
      let f ← evSs (p.cf n) body
      match f with
      | .next => whileLoop (wTest (p.cf n) t) (evSs (p.cf n) body) m
      | .cont => whileLoop (wTest (p.cf n) t) (evSs (p.cf n) body) m
      | .brk => pure .next
      | .ret r => pure (.ret r)) else pure .next) s5) F2 := by
      have h0 : OutQ X.K γ B W D ((wTest (p.cf n) t s2).andThen fun b => if b then (do
        let f ← evSs (p.cf n) body
        match f with
        | .next => whileLoop (wTest (p.cf n) t) (evSs (p.cf n) body) m
        | .cont => whileLoop (wTest (p.cf n) t) (evSs (p.cf n) body) m
        | .brk => pure .next
        | .ret r => pure (.ret r)) else pure .next) F2 := hloop
      have e0 : wTest (p.cf n) t s2 = (ev (p.cf n) t s2).andThen fun x s3 => (opd x s3).andThen fun u s4 => M.opt (truth u) s4 := rfl
      rw [e0] at h0
      clear hloop
      cases g1 : ev (p.cf n) t s2 with
      | stuck => rw [g1] at h0; exact h0
      | exc k v => rw [g1] at h0; exact h0
      | ok r s3 =>
        rw [g1] at h0
        have h1 : OutQ X.K γ B W D (((opd r s3).andThen fun u s4 => M.opt (truth u) s4).andThen fun b => if b then (do
          let f ← evSs (p.cf n) body
          match f with
          | .next => whileLoop (wTest (p.cf n) t) (evSs (p.cf n) body) m
          | .cont => whileLoop (wTest (p.cf n) t) (evSs (p.cf n) body) m
          | .brk => pure .next
          | .ret r => pure (.ret r)) else pure .next) F2 := h0
        rw [andThen_ok]
        clear h0
        cases g2 : opd r s3 with
        | stuck => rw [g2] at h1; exact h1
        | exc k v => rw [g2] at h1; exact h1
        | ok u s4 => rw [g2] at h1; exact h1
    clear hloop
    cases g1 : ev (p.cf n) t s2 with
    | stuck => rw [g1] at v0; exact v0.elim
    | exc k v => exact (nx_ev t s2 k v g1).elim
    | ok r s3 =>
    rw [g1, andThen_ok] at v0
    cases g2 : opd r s3 with
    | stuck => rw [g2] at v0; exact v0.elim
    | exc k v => exact (nx_opd r s3 k v g2).elim
    | ok u s4 =>
    rw [g2, andThen_ok] at v0
    have e4 := opd_same g2
    subst e4
    cases g3 : truth u with
    | none => rw [g3] at v0; exact v0.elim
    | some b =>
    rw [g3, opt_some, andThen_ok] at v0
    refine tUT_good g1 g2 g3 e2 fun H5 F5 q5 e5 => ?_
    cases b with
    | true =>
      rw [if_pos rfl] at v0
      rw [if_pos rfl]
      refine ⟨fun σ' H' => ∃ F3 s3, EnvR X.K γ B F3 H' σ' s3 ∧ Sub F F3 ∧ OutQ X.K γ B W D (whileLoop (wTest (p.cf n) t) (evSs (p.cf n) body) m s3) F3, fun σ' H' hn => ⟨m, Nat.lt_succ_self m, hn⟩, B, s4, F5, e5, ?_⟩
      have v1 : OutQ X.K γ B W D ((evSs (p.cf n) body s4).andThen fun f => match f with
        | .next => whileLoop (wTest (p.cf n) t) (evSs (p.cf n) body) m
        | .cont => whileLoop (wTest (p.cf n) t) (evSs (p.cf n) body) m
        | .brk => pure .next
        | .ret r => pure (.ret r)) F5 := OutQ.sub v0 q5
      clear v0
      cases g4 : evSs (p.cf n) body s4 with
      | stuck => rw [g4] at v1; exact v1
      | exc k v => rw [g4] at v1; exact v1
      | ok f1 s6 =>
        rw [g4] at v1
        intro σ' H6 F6 q6 e6
        have s6' : Sub F F6 := sub2.trans (q5.trans q6)
        cases f1 with
        | next => exact ⟨F6, s6, e6, s6', OutQ.sub v1 q6⟩
        | cont => exact ⟨F6, s6, e6, s6', OutQ.sub v1 q6⟩
        | brk => exact (show OutQ X.K γ B W D (.ok .next s6) F5 from v1) σ' H6 F6 q6 e6
        | ret r => exact (show OutQ X.K γ B W D (.ok (.ret r) s6) F5 from v1) σ' H6 F6 q6 e6
    | false =>
      rw [if_neg Bool.false_ne_true] at v0
      rw [if_neg Bool.false_ne_true]
      exact (show OutQ X.K γ B W D (.ok .next s4) F2 from v0) σ1 H5 F5 q5 e5
end
end Ev

/-! Ev23r: what raises; loops over defs; every statement. -/
namespace Ev
open PySem PySem.Spec L2
section
variable {p : Prg} {n : Nat} {S : Sx} {K : Frag} {γ : Gt} {c : Cf}
theorem ex_plain {X : Cx} {B : Bs} {F H : Hp} {σ : L2.St} {s : Ev.Env} {W : WX} {k : Nat} {C : Addr} (en : EnvR X.K γ B F H σ s) (hk : γ.ex[k]? = some (C, none)) (q : ExcQ X.K γ B W k .none F) : W (.ref C) none σ H :=
  q σ H F s (.ref C) none (Sub.refl F) en ⟨C, none, hk, rfl, rfl, rfl⟩
theorem PS_nx {X : Cx} {x : Stmt} {t : TS} (h : PS X x (fun _ σ H => t ⟨fun _ _ => False, fun _ _ => False, fun _ _ => False, fun _ _ => False⟩ σ H)) : PS X x (fun D σ H => t ⟨fun _ _ => False, fun _ _ => False, fun _ _ => False, fun _ _ => False⟩ σ H) := h
theorem ssx_raise {k : Nat} {eo : Option E} : SSX p γ n S (.raise k eo) := fun X W x c xp tk h => by
  simp only [chkS] at h
  split at h
  case h_2 => cases h
  rename_i y py ys pc pr
  simp only [Bool.and_eq_true, decide_eq_true_eq] at h
  obtain ⟨⟨⟨h1, h2⟩, h3⟩, h4⟩ := h
  split at h1
  case h_2 => cases h1
  rename_i y' fo hxk
  rw [Bool.and_eq_true] at h1
  have hyy := of_decide_eq_true h1.1
  subst hyy
  have hfo : fo.isSome = eo.isSome := by simpa using h1.2
  obtain ⟨C, hC, ok⟩ := c.xs k y' fo hxk
  cases eo with
  | none =>
    cases ok with
    | low T => cases hfo
    | plain FB hex hm hkp hsb hty =>
    dsimp only at h4
    split at h4
    · refine PS.imp (ps_raise c.calm tk (pmk_own FB hex hm hkp (raises_own hsb hty) (gloB_ok rfl h2) (plainName_ok h3).1)) fun D σ H q => ?_
      obtain ⟨B, s, F, en, q⟩ := q
      exact ex_plain en hC q
    · cases h4
  | some e =>
    cases ok with
    | plain FB hex hm hkp hsb hty => cases hfo
    | @low fI f qn nw ini T =>
    dsimp only at h4
    split at h4
    · rename_i a
      rw [Bool.and_eq_true] at h4
      have hn : [a].all notStar = true := by simp [h4.2]
      have hs : SEs p γ n S [e] := ses [e]
      have hc : chks S X.env.scope [e] [a] = true := by simp [chks, h4.1]
      refine PS.imp (ps_raise c.calm tk (pmk_lowG T c.room (hs X [a] c hc hn) (gloB_ok rfl h2) (plainName_ok h3).1 (star_cons h4.2) (star_plain (es := []) rfl))) fun D σ H q => ?_
      obtain ⟨B, s, F, en, q⟩ := q
      have q : OutQ X.K γ B W D ((ev (p.cf n) e s).andThen fun r s1 => (fz r s1).andThen fun v _ => .exc k v) F := q
      cases g1 : ev (p.cf n) e s with
      | stuck => rw [g1] at q; exact q.elim
      | exc k' v => exact (nx_ev e s k' v g1).elim
      | ok r s1 =>
      rw [g1, andThen_ok] at q
      cases g2 : fz r s1 with
      | stuck => rw [g2] at q; exact q.elim
      | exc k' v => exact (nx_fz r s1 k' v g2).elim
      | ok v s2 =>
      rw [g2, andThen_ok] at q
      have g0 : evs (p.cf n) [e] s = .ok [r] s1 := by
        show (ev (p.cf n) e s).andThen _ = _
        rw [g1]; rfl
      refine ⟨B, s, [r], s1, g0, F, en, fun vs H' F' q1 e1 rv => ?_⟩
      cases rv with
      | cons rv0 rn =>
      cases rn
      rename_i v0
      obtain ⟨e2, rp⟩ := fz_ok rv0 g2
      refine ⟨v0, rfl, fun d hd => ?_⟩
      have gr : Grow F' H' F' (upd H' d (.xd [(f, v0)])) := Grow.own e1.fh hd
      exact q σ _ F' s1 (.ref C) (some d) q1 (e1.grow gr) ⟨C, some f, hC, rfl, d, v0, rfl, upd_same, rp⟩
    · cases h4
/-! ### calls that may raise -/
theorem callX_out {K : Frag} {B : Bs} {W : WX} {D : Ends} {c : Cf} {f : Nat} {vs : List PV} {s : Ev.Env} {F : Hp} {k : Rv → M Flow} (h : OutQ K γ B W D ((callX c f vs s).andThen k) F) : c.lent f = [] ∧
    ((∃ r, c.Φ f vs = some (r, []) ∧ OutQ K γ B W D (k r s) F) ∨ ∃ j v, c.Ξ f vs = some (j, v) ∧ ExcQ K γ B W j v F) := by
  unfold callX at h
  split at h
  · rename_i hl
    refine ⟨hl, ?_⟩
    split at h
    · rename_i r g
      exact .inl ⟨r, g, h⟩
    · exact h.elim
    · split at h
      · rename_i j v g
        exact .inr ⟨j, v, g, h⟩
      · exact h.elim
  · exact h.elim
theorem evsf {B : Bs} {W : WX} {D : Ends} {es : List E} {s : Ev.Env} {F : Hp} {k : List PV → M Flow} (h : OutQ K γ B W D ((evs c es s).andThen fun rs s1 => (fzs rs s1).andThen k) F) : ∃ rs s1 ds, evs c es s = .ok rs s1 ∧ fzs rs s1 = .ok ds s1 ∧ OutQ K γ B W D (k ds s1) F := by
  cases g1 : evs c es s with
  | stuck => rw [g1] at h; exact h.elim
  | exc k' v => exact (nx_evs es s k' v g1).elim
  | ok rs s1 =>
  rw [g1, andThen_ok] at h
  cases g2 : fzs rs s1 with
  | stuck => rw [g2] at h; exact h.elim
  | exc k' v => exact (nx_fzs rs s1 k' v g2).elim
  | ok ds s2 =>
  rw [g2, andThen_ok] at h
  have e := fzs_same g2
  subst e
  exact ⟨rs, s2, ds, rfl, g2, h⟩
/-- f(es), with what it raises -/
def tCX (K : Frag) (γ : Gt) (c : Cf) (W : WX) (f : Nat) (es : List E) : TE := fun σ H Q => ∃ B s F rs s1 ds, EnvR K γ B F H σ s ∧ evs c es s = .ok rs s1 ∧ fzs rs s1 = .ok ds s1 ∧ c.lent f = [] ∧
  ((∃ r, c.Φ f ds = some (r, []) ∧ ∀ v H' F', Sub F F' → EnvR K γ B F' H' σ s1 → RvR K B F' H' σ s1 v r → Q v H') ∨ ∃ j v, c.Ξ f ds = some (j, v) ∧ ExcQ K γ B W j v F)
theorem postX_env {B : Bs} {F H F' H' : Hp} {σ : L2.St} {s : Ev.Env} {j : Nat} {d : PV} {cls : Value} {dd : Option Addr} (en : EnvR K γ B F H σ s) (po : PostX K γ F H j d cls dd F' H') : EnvR K γ B F' H' σ s := by
  have po2 : Post K γ F H [] [] (.frz .none) .non F' H' := ⟨po.ff, po.fh, fun a o h n _ => po.keep a o h n, po.new, .nil, .non, po.tab, po.ftb⟩
  exact (post_env en po2).1
theorem pe_callX {X : Cx} {W : WX} (c : XC p γ n S X) (tk : Takes X W) {f : Nat} {es : List E} {x : Expr} (h : chk S X.env.scope (.call f es) x = true) : PE X x (tCX X.K γ (p.cf n) W f es) := by
  simp only [chk] at h
  split at h
  case h_2 => cases h
  rename_i y pp ys pos
  simp only [Bool.and_eq_true, decide_eq_true_eq] at h
  obtain ⟨⟨⟨⟨⟨⟨hf, hgd⟩, h1⟩, h2⟩, h3⟩, h4⟩, h5⟩ := h
  obtain ⟨fa, fd, ps, hm, hk, hb, F⟩ := c.fn f y hf (by simpa using hgd)
  cases ys with
  | nil => simp at h5
  | cons z zs =>
    have h4' := h4
    rw [List.all_cons, Bool.and_eq_true] at h4'
    refine PE.imp (pe_callSD (E := fun σ cls d H => W cls d σ H) F c.room (gloB_ok rfl h1) hm hk hb .nil (fun σ pins H s e s' I c => tk e s' (XE.of_call I (fun cls d H' h => h) c)) (ses es X _ c h3 h4) (plainName_ok h2).1 (star_cons h4'.1) (star_plain h4'.2)) fun σ H Q q => ?_
    obtain ⟨B, s, F0, rs, s1, ds, en, g1, g2, hl, q⟩ := q
    refine ⟨B, s, rs, s1, g1, F0, en, fun us H1 F1 q1 e1 rv => ?_⟩
    obtain ⟨_, ra⟩ := fzs_ok rv g2
    rw [cf_lent] at hl
    refine ⟨F1, ds, [], e1.fh, e1.tab, e1.ftb, by rw [hl, List.append_nil]; exact argsR_all 0 ra, List.nodup_nil, ?_⟩
    rcases q with ⟨r, hr, k⟩ | ⟨j, v, hj, k⟩
    · refine .inl ⟨r, [], hr, fun v F' H' po => ?_⟩
      obtain ⟨e7, r7⟩ := post_env e1 po
      exact k v H' F' (q1.trans po.ff) e7 r7
    · exact .inr ⟨rfl, j, v, hj, fun cls d F' H' po => k σ H' F' s1 cls d (q1.trans po.ff) (postX_env e1 po) po.exc⟩
theorem ssx_exX {f : Nat} {es : List E} : SSX p γ n S (.exX f es) := fun X W x c xp tk h => by
  simp only [chkS] at h
  split at h
  · rw [Bool.and_eq_true] at h
    refine PS.imp (ps_expr (pe_callX c tk h.1) (sw_none h.2)) fun D σ H q => ?_
    obtain ⟨B, s, F, en, q⟩ := q
    obtain ⟨rs, s1, ds, g1, g2, q⟩ := evsf (c := p.cf n) (k := fun ds => (do let _ ← callX (p.cf n) f ds; pure .next)) q
    obtain ⟨hl, q⟩ := callX_out (k := fun _ => pure .next) q
    refine ⟨B, s, F, rs, s1, ds, en, g1, g2, hl, ?_⟩
    rcases q with ⟨r, hr, k⟩ | q
    · exact .inl ⟨r, hr, fun v H' F' q1 e1 _ => k σ H' F' q1 e1⟩
    · exact .inr q
  · cases h
theorem ssx_retX {f : Nat} {es : List E} : SSX p γ n S (.retX f es) := fun X W x c xp tk h => by
  simp only [chkS] at h
  split at h
  · refine PS.imp (ps_ret (pe_callX c tk h)) fun D σ H q => ?_
    obtain ⟨B, s, F, en, q⟩ := q
    obtain ⟨rs, s1, ds, g1, g2, q⟩ := evsf (c := p.cf n) (k := fun ds => (do let r ← callX (p.cf n) f ds; pure (.ret r))) q
    obtain ⟨hl, q⟩ := callX_out (k := fun r => pure (.ret r)) q
    refine ⟨B, s, F, rs, s1, ds, en, g1, g2, hl, ?_⟩
    rcases q with ⟨r, hr, k⟩ | q
    · exact .inl ⟨r, hr, fun v H' F' q1 e1 rv => k σ H' F' q1 e1 v rv⟩
    · exact .inr q
  · cases h
/-! ### a call whose last argument is such a call -/
def tUsL (K : Frag) (γ : Gt) (c : Cf) (es : List E) (tx : TE) : TA := fun σ H Q => ∃ B s rs s', evs c es s = .ok rs s' ∧ ∃ F, EnvR K γ B F H σ s ∧ ∀ vs H' F', Sub F F' → EnvR K γ B F' H' σ s' → RvFs K F' σ vs rs → tx σ H' fun v H2 => Q (vs ++ [v]) H2
theorem ses_last {X : Cx} (c : XC p γ n S X) {z : Expr} {tx : TE} (hz : PE X z tx) (nz : notStar z = true) : ∀ {es : List E} {ys : List Expr}, chks S X.env.scope es ys = true → ys.all notStar = true → PA X (ys ++ [z]) (tUsL X.K γ (p.cf n) es tx)
  | [], ys, h, _ => by
    obtain rfl : ys = [] := by
      cases ys with
      | nil => rfl
      | cons y ys => simp [chks] at h
    refine PA.imp (pa_cons hz pa_nil (star_cons nz)) fun σ H Q q => ?_
    obtain ⟨B, s, rs, s', hv, F, en, k⟩ := q
    obtain ⟨rfl, rfl⟩ := pure_inv hv
    exact k [] H F (Sub.refl F) en .nil
  | e :: es, ys, h, hn => by
    obtain ⟨y, ys', rfl, h1, h2⟩ : ∃ y ys', ys = y :: ys' ∧ chk S X.env.scope e y = true ∧ chks S X.env.scope es ys' = true := by
      simp only [chks] at h
      split at h
      · rename_i y ys
        simp only [Bool.and_eq_true] at h
        exact ⟨y, ys, rfl, h.1, h.2⟩
      · cases h
    rw [List.all_cons, Bool.and_eq_true] at hn
    refine PA.imp (pa_cons (se e X _ c h1) (ses_last c hz nz h2 hn.2) (star_cons hn.1)) fun σ H Q q => ?_
    obtain ⟨B, s, rs, s', hv, F, en, k⟩ := q
    obtain ⟨r1, s1, g1, w1⟩ := bind_inv hv
    obtain ⟨rs1, s2, g2, w2⟩ := bind_inv w1
    obtain ⟨rfl, rfl⟩ := pure_inv w2
    refine tU_good g1 en fun v H1 F1 q1 e1 rv => ⟨B, s1, rs1, _, g2, F1, e1, fun vs H2 F2 q2 e2 rvs => ?_⟩
    exact k (v :: vs) H2 F2 (q1.trans q2) e2 (.cons (rv.sub q2) rvs)
def tCXA (K : Frag) (γ : Gt) (c : Cf) (W : WX) (f : Nat) (es : List E) (g : Nat) (gs : List E) : TE := fun σ H Q => ∃ B s F rs s1 r2s s2 d2, EnvR K γ B F H σ s ∧ evs c es s = .ok rs s1 ∧ evs c gs s1 = .ok r2s s2 ∧ fzs r2s s2 = .ok d2 s2 ∧ c.lent g = [] ∧
  ((∃ r2 ds, c.Φ g d2 = some (r2, []) ∧ fzs (rs ++ [r2]) s2 = .ok ds s2 ∧ c.lent f = [] ∧
    ((∃ r, c.Φ f ds = some (r, []) ∧ ∀ v H' F', Sub F F' → EnvR K γ B F' H' σ s2 → RvR K B F' H' σ s2 v r → Q v H') ∨ ∃ j v, c.Ξ f ds = some (j, v) ∧ ExcQ K γ B W j v F)) ∨ ∃ j v, c.Ξ g d2 = some (j, v) ∧ ExcQ K γ B W j v F)
theorem pe_callXA {X : Cx} {W : WX} (c : XC p γ n S X) (tk : Takes X W) {f g : Nat} {es gs : List E} {y : Str} {z : Expr} {ys : List Expr} {pp pos : Pos} (hf : S.fns[f]? = some y) (hgd : S.gds.contains f = false) (h1 : gloB X.env.scope y = true) (h2 : plainName y = true)
    (hz : chk S X.env.scope (.call g gs) z = true) (nz : notStar z = true) (h3 : chks S X.env.scope es ys = true) (h4 : ys.all notStar = true) : PE X (.Call (.Name y pp) (ys ++ [z]) [] pos) (tCXA X.K γ (p.cf n) W f es g gs) := by
  obtain ⟨fa, fd, ps, hm, hk, hb, F⟩ := c.fn f y hf hgd
  have hpa := ses_last c (pe_callX c tk hz) nz h3 h4
  obtain ⟨a, as, e0⟩ : ∃ a as, ys ++ [z] = a :: as := by cases ys <;> exact ⟨_, _, rfl⟩
  have h5 : (a :: as).all notStar = true := by rw [← e0]; simp [h4, nz]
  rw [e0] at hpa ⊢
  rw [List.all_cons, Bool.and_eq_true] at h5
  refine PE.imp (pe_callSD (E := fun σ cls d H => W cls d σ H) F c.room (gloB_ok rfl h1) hm hk hb .nil (fun σ pins H s e s' I c => tk e s' (XE.of_call I (fun cls d H' h => h) c)) hpa (plainName_ok h2).1 (star_cons h5.1) (star_plain h5.2)) fun σ H Q q => ?_
  obtain ⟨B, s, F0, rs, s1, r2s, s2, d2, en, g1, g2, g3, hl, q⟩ := q
  refine ⟨B, s, rs, s1, g1, F0, en, fun us H1 F1 q1 e1 rv => ⟨B, s1, F1, r2s, s2, d2, e1, g2, g3, hl, ?_⟩⟩
  rcases q with ⟨r2, ds, hr2, g4, hlf, q⟩ | ⟨j, v, hj, k⟩
  · refine .inl ⟨r2, hr2, fun v H2 F2 q2 e2 rv2 => ?_⟩
    obtain ⟨F3, q3, e3, r3⟩ := rv2.good e2
    obtain ⟨_, ra⟩ := fzs_ok ((RvFs.sub (q2.trans q3) rv).append (.cons r3 .nil)) g4
    rw [cf_lent] at hlf
    refine ⟨F3, ds, [], e3.fh, e3.tab, e3.ftb, by rw [hlf, List.append_nil]; exact argsR_all 0 ra, List.nodup_nil, ?_⟩
    rcases q with ⟨r, hr, k⟩ | ⟨j, v, hj, k⟩
    · refine .inl ⟨r, [], hr, fun v F' H' po => ?_⟩
      obtain ⟨e7, r7⟩ := post_env e3 po
      exact k v H' F' ((q1.trans (q2.trans q3)).trans po.ff) e7 r7
    · exact .inr ⟨rfl, j, v, hj, fun cls d F' H' po => k σ H' F' s2 cls d ((q1.trans (q2.trans q3)).trans po.ff) (postX_env e3 po) po.exc⟩
  · exact .inr ⟨j, v, hj, ExcQ.sub k q1⟩
theorem ssx_retXA {f g : Nat} {es gs : List E} : SSX p γ n S (.retXA f es g gs) := fun X W x c xp tk h => by
  simp only [chkS] at h
  split at h
  case h_2 => cases h
  rename_i y pp ys pos rpos
  simp only [Bool.and_eq_true, decide_eq_true_eq, Bool.not_eq_true'] at h
  obtain ⟨⟨⟨⟨hf, hgd⟩, h1⟩, h2⟩, h3⟩ := h
  split at h3
  case h_2 => cases h3
  rename_i z hz
  simp only [Bool.and_eq_true] at h3
  obtain ⟨⟨⟨h4, h5⟩, h6⟩, h7⟩ := h3
  have e0 : ys = ys.dropLast ++ [z] := by
    obtain ⟨zs, e⟩ := List.getLast?_eq_some_iff.mp hz
    rw [e]; simp
  rw [e0]
  refine PS.imp (ps_ret (pe_callXA c tk hf hgd h1 h2 h4 h5 h6 h7)) fun D σ H q => ?_
  obtain ⟨B, s, F, en, q⟩ := q
  have q : OutQ X.K γ B W D ((evs (p.cf n) es s).andThen fun rs => (do
    let r2s ← evs (p.cf n) gs; let d2 ← fzs r2s; let r2 ← callX (p.cf n) g d2
    let ds ← fzs (rs ++ [r2]); let r ← callX (p.cf n) f ds; pure (.ret r) : M Flow)) F := q
  cases g1 : evs (p.cf n) es s with
  | stuck => rw [g1] at q; exact q.elim
  | exc k' v => exact (nx_evs es s k' v g1).elim
  | ok rs s1 =>
  rw [g1, andThen_ok] at q
  obtain ⟨r2s, s2, d2, g2, g3, q⟩ := evsf (c := p.cf n) (k := fun d2 => (do let r2 ← callX (p.cf n) g d2; let ds ← fzs (rs ++ [r2]); let r ← callX (p.cf n) f ds; pure (.ret r))) q
  obtain ⟨hl, q⟩ := callX_out (k := fun r2 => (do let ds ← fzs (rs ++ [r2]); let r ← callX (p.cf n) f ds; pure (.ret r))) q
  refine ⟨B, s, F, rs, s1, r2s, s2, d2, en, g1, g2, g3, hl, ?_⟩
  rcases q with ⟨r2, hr2, q⟩ | q
  · refine .inl ?_
    have q2 : OutQ X.K γ B W D ((fzs (rs ++ [r2]) s2).andThen fun ds => (do let r ← callX (p.cf n) f ds; pure (.ret r) : M Flow)) F := q
    clear q
    cases g4 : fzs (rs ++ [r2]) s2 with
    | stuck => rw [g4] at q2; exact q2.elim
    | exc k' v => exact (nx_fzs _ s2 k' v g4).elim
    | ok ds s3 =>
    rw [g4, andThen_ok] at q2
    have e3 := fzs_same g4
    subst e3
    obtain ⟨hlf, q⟩ := callX_out (k := fun r => pure (.ret r)) q2
    refine ⟨r2, ds, hr2, g4, hlf, ?_⟩
    rcases q with ⟨r, hr, k⟩ | q
    · exact .inl ⟨r, hr, fun v H' F' q1 e1 rv => k σ H' F' q1 e1 v rv⟩
    · exact .inr q
  · exact .inr q
theorem ssx_asgX {i f : Nat} {es : List E} : SSX p γ n S (.asgX i f es) := fun X W x c xp tk h => by
  simp only [chkS] at h
  split at h
  · simp only [Bool.and_eq_true, decide_eq_true_eq, Bool.not_eq_true'] at h
    obtain ⟨⟨⟨⟨h1, h2⟩, h3⟩, h4⟩, h5⟩ := h
    refine PS.imp (ps_set c.nd (by rw [c.hN]; exact h2) (locB_ok h3) (pe_callX c tk h1) (sw_name h5 h4) (.inl (xp.fn _))) fun D σ H q => ?_
    obtain ⟨B, s, F, en, q⟩ := q
    obtain ⟨rs, s1, ds, g1, g2, q⟩ := evsf (c := p.cf n) (k := fun ds => (do let r ← callX (p.cf n) f ds; let _ ← store i r; pure .next)) q
    obtain ⟨hl, q⟩ := callX_out (k := fun r => (do let _ ← store i r; pure .next)) q
    refine ⟨B, s, F, rs, s1, ds, en, g1, g2, hl, ?_⟩
    rcases q with ⟨r, hr, k⟩ | q
    · refine .inl ⟨r, hr, fun v H' F' q1 e1 rv => ?_⟩
      have e0 : ((do let _ ← store i r; pure .next : M Flow) s1) = (store i r s1).andThen fun _ s2 => .ok .next s2 := rfl
      rw [e0] at k
      cases hs : store i r s1 with
      | stuck => rw [hs] at k; exact k.elim
      | exc k' v' => exact (nx_store i r s1 k' v' hs).elim
      | ok u s2 =>
        rw [hs] at k
        exact k _ H' F' q1 (store_env e1 hs rv)
    · exact .inr q
  · cases h
/-! ### a for over defs -/
theorem pa_fns {X : Cx} (c : XC p γ n S X) : ∀ {fs : List Nat} {ns : List Expr}, chkFs S X.env.scope fs ns = true → ns.all notStar = true ∧ ∃ as : List Addr, Paired (fun f a => γ.fs f = some a) fs as ∧ PA X ns (fun σ H Q => Q (as.map V.ref) H)
  | [], ns, h => by
    cases ns with
    | nil => exact ⟨rfl, [], .nil, pa_nil⟩
    | cons y ys => simp [chkFs] at h
  | f :: fs, ns, h => by
    cases ns with
    | nil => simp [chkFs] at h
    | cons y ys =>
      cases y <;> simp only [chkFs, Bool.and_eq_true, decide_eq_true_eq, reduceCtorEq] at h
      rename_i z pz
      obtain ⟨⟨⟨⟨h1, hgd⟩, h2⟩, h3⟩, h4⟩ := h
      obtain ⟨hn, as, hp, ha⟩ := pa_fns c h4
      obtain ⟨fa, hm, hfa⟩ := c.fs f z h1 (by simpa using hgd)
      refine ⟨by simp [notStar, hn], fa :: as, .cons hfa hp, PA.imp (pa_cons (pe_glob (v := .ref fa) (gloB_ok rfl h2) hm rfl (plainName_ok h3).1) ha) fun σ H Q q => q⟩
theorem EnvR.putFn {B : Bs} {F H : Hp} {σ : L2.St} {s : Ev.Env} (en : EnvR K γ B F H σ s) {i f : Nat} {a : Addr} {s' : Ev.Env} (hf : γ.fs f = some a) (h : storeFn i f s = .ok () s') : EnvR K γ B F H (σ.set i (some (.ref a))) s' := by
  unfold storeFn at h
  split at h
  · cases h
  · cases h
  · rename_i y hy hn
    cases h
    refine en.put hn ?_ (by simp) (fun j hj => List.getElem?_set_ne (Ne.symm hj)) ⟨a, List.getElem?_set_self (en.lt hn), hf⟩ rfl
    cases y with
    | io d => exact (hy d rfl).elim
    | _ => rfl
/-- one turn -/
def turnF (c : Cf) (i : Nat) (body : List Stm) : Nat → M Flow := fun f => do storeFn i f; evSs c body
theorem outF_cons {step : Nat → M Flow} {x : Nat} {xs : List Nat} {s : Ev.Env} {B : Bs} {W : WX} {D : Ends} {F : Hp} (h : OutQ K γ B W D (fnLoop step (x :: xs) s) F) :
    OutQ K γ B W ⟨fun σ' H' => ∃ F3 s3, EnvR K γ B F3 H' σ' s3 ∧ Sub F F3 ∧ OutQ K γ B W D (fnLoop step xs s3) F3, D.rt, fun σ' H' => D.nx σ' H', fun σ' H' => ∃ F3 s3, EnvR K γ B F3 H' σ' s3 ∧ Sub F F3 ∧ OutQ K γ B W D (fnLoop step xs s3) F3⟩ (step x s) F := by
  have h : OutQ K γ B W D ((step x s).andThen fun f => match f with
    | .next => fnLoop step xs
    | .cont => fnLoop step xs
    | .brk => pure .next
    | .ret r => pure (.ret r)) F := h
  cases e : step x s with
  | stuck => rw [e] at h; exact h
  | exc k v => rw [e] at h; exact h
  | ok f s1 =>
    rw [e] at h
    intro σ' H' F' q1 e1
    cases f with
    | next => exact ⟨F', s1, e1, q1, OutQ.sub h q1⟩
    | cont => exact ⟨F', s1, e1, q1, OutQ.sub h q1⟩
    | brk => exact (show OutQ K γ B W D (.ok .next s1) F from h) σ' H' F' q1 e1
    | ret r => exact (show OutQ K γ B W D (.ok (.ret r) s1) F from h) σ' H' F' q1 e1
theorem paired_get {R : Nat → Addr → Prop} : ∀ {fs : List Nat} {as : List Addr}, Paired R fs as → ∀ {i : Nat} {a : Addr}, as[i]? = some a → ∃ f, fs[i]? = some f ∧ R f a
  | _, _, .nil, i, a, h => by simp at h
  | _, _, .cons r t, 0, a, h => by simp at h; subst h; exact ⟨_, rfl, r⟩
  | _, _, .cons r t, i + 1, a, h => by
    obtain ⟨f, h1, h2⟩ := paired_get t (i := i) (a := a) (by simpa using h)
    exact ⟨f, by simpa using h1, h2⟩
theorem paired_len {R : Nat → Addr → Prop} : ∀ {fs : List Nat} {as : List Addr}, Paired R fs as → fs.length = as.length
  | _, _, .nil => rfl
  | _, _, .cons _ t => by simp [paired_len t]
theorem ssx_loopF {i : Nat} {fs : List Nat} {body : List Stm} (hb : SSsX p γ n S body) : SSX p γ n S (.loopF i fs body) := fun X W x c xp tk h => by
  simp only [chkS] at h
  split at h
  case h_2 => cases h
  rename_i y py ns jj pn body' pos
  simp only [Bool.and_eq_true, decide_eq_true_eq] at h
  obtain ⟨⟨⟨⟨h1, h2⟩, h3⟩, h4⟩, h5⟩ := h
  obtain ⟨hn, as, hp, ha⟩ := pa_fns c h3
  have hl := paired_len hp
  have hz : as.length ≤ sizeLine := by rw [sizeLine_eq]; omega
  refine PS.imp (ps_for xp.pass c.calm (pi_tup (pe_tup ha)) (pg_name c.nd (by rw [c.hN]; exact h1) (locB_ok h2) (.inl (xp.fn y))) (hb X W body' c xp tk h4) (by intro z; rfl)) fun D σ H q => ?_
  obtain ⟨B, s, F, en, q⟩ := q
  have q : OutQ X.K γ B W D (fnLoop (turnF (p.cf n) i body) fs s) F := q
  refine ⟨by simpa using hz, fun t ht => ⟨t, rfl, ⟨_, .inl (.inl upd_same)⟩, ?_⟩⟩
  have g0 : Grow F H (upd F t (.tup (as.map V.ref))) (upd H t (.tup (as.map V.ref))) := Grow.frz en.fh ht
  have en1 := en.grow g0
  have sq : ∀ {G : Hp}, Sub (upd F t (.tup (as.map V.ref))) G → SqT X.K G t (as.map V.ref) := fun s => .inl (.inl (s _ _ upd_same))
  generalize upd F t (.tup (as.map V.ref)) = F1 at *
  refine ⟨fun j m σ2 H => m = fs.length - j ∧ j ≤ fs.length ∧ ∃ F2 s2, EnvR X.K γ B F2 H σ2 s2 ∧ Sub F1 F2 ∧ OutQ X.K γ B W D (fnLoop (turnF (p.cf n) i body) (fs.drop j) s2) F2, ⟨fs.length, by simp, Nat.zero_le _, F1, s, en1, Sub.refl F1, by rw [List.drop_zero]; exact OutQ.sub q g0.ff⟩, ?_⟩
  rintro j m σ1 H1 ⟨rfl, hj, F2, s2, e2, sub2, hloop⟩
  have sqH : SqT X.K H1 t (as.map V.ref) := sq (sub2.trans e2.fh)
  by_cases hlt : j < fs.length
  · right
    have hla : j < as.length := by omega
    refine ⟨⟨_, .ref as[j], sqH, by rw [List.getElem?_map, List.getElem?_eq_getElem hla]; rfl⟩, fun σ' H' => j + 1 ≤ fs.length ∧ ∃ F3 s3, EnvR X.K γ B F3 H' σ' s3 ∧ Sub F1 F3 ∧ OutQ X.K γ B W D (fnLoop (turnF (p.cf n) i body) (fs.drop (j + 1)) s3) F3, fun σ' H' hn => ⟨fs.length - (j + 1), by omega, rfl, hn.1, hn.2⟩, fun x H' hy' => ?_⟩
    obtain ⟨rfl, hy'⟩ := hy'
    have hx := hy' _ sqH
    rw [List.getElem?_map, List.getElem?_eq_getElem hla] at hx
    cases hx
    obtain ⟨f, hf, hfa⟩ := paired_get hp (i := j) (a := as[j]) (List.getElem?_eq_getElem hla)
    have hd : fs.drop j = f :: fs.drop (j + 1) := by
      obtain ⟨h1, h2⟩ := List.getElem?_eq_some_iff.mp hf
      rw [List.drop_eq_getElem_cons h1, h2]
    rw [hd] at hloop
    have v2 : OutQ X.K γ B W _ ((storeFn i f s2).andThen fun _ => evSs (p.cf n) body) F2 := outF_cons hloop
    cases f3 : storeFn i f s2 with
    | stuck => rw [f3] at v2; exact v2.elim
    | exc k' v => exact (nx_storeFn i f s2 k' v f3).elim
    | ok u t2 =>
    rw [f3] at v2
    refine ⟨B, t2, F2, e2.putFn hfa f3, ?_⟩
    refine OutQ.imp (show OutQ X.K γ B W _ (evSs (p.cf n) body t2) F2 from v2) (fun σ' H' hh => ?_) (fun v H' hh => hh) (fun σ' H' hh => hh) fun σ' H' hh => ?_
    · obtain ⟨F4, s4, a1, a2, a3⟩ := hh
      exact ⟨hlt, F4, s4, a1, sub2.trans a2, a3⟩
    · obtain ⟨F4, s4, a1, a2, a3⟩ := hh
      exact ⟨hlt, F4, s4, a1, sub2.trans a2, a3⟩
  · left
    have ej : j = fs.length := by omega
    subst ej
    refine ⟨⟨_, sqH, by rw [List.length_map]; omega⟩, ?_⟩
    rw [List.drop_length] at hloop
    exact (show OutQ X.K γ B W D (.ok .next s2) F2 from hloop) σ1 H1 F2 (Sub.refl F2) e2
mutual
theorem ssAll : ∀ s : Stm, SSX p γ n S s
  | .pass => ssx_of ss_pass fun c => nx_pure _
  | .ex e => ssx_of ss_ex fun c => nx_ex e
  | .asg t e => ssx_of ss_asg fun c => nx_asg t e
  | .par ts es => ssx_of ss_par fun c => nx_par ts es
  | .aug i op e => ssx_of ss_aug fun c => nx_aug i op e
  | .seti i k e => ssx_of ss_seti fun c => nx_seti i k e
  | .augI i op k e => ssx_of ss_augI fun c => nx_augI i op k e
  | .subs ts es => ssx_of ss_subs fun c => nx_subs ts es
  | .subN a k i es => ssx_of ss_subN fun c => nx_subN a k i es
  | .popA i j => ssx_of ss_popA fun c => nx_popA i j
  | .mut m i es => ssx_of ss_mut fun c => nx_mut m i es
  | .ret e => ssx_of ss_ret fun c => nx_ret e
  | .retN => ssx_of ss_retN fun c => nx_pure _
  | .ite t a b => ssx_ite (sssAll a) (sssAll b)
  | .loop tg k its body => ssx_loop (sssAll body)
  | .whl t body => ssx_whl (sssAll body)
  | .brk => ssx_of ss_brk fun c => nx_pure _
  | .cont => ssx_of ss_cont fun c => nx_pure _
  | .never => ssx_of ss_never fun c => nx_stuck
  | .raise k eo => ssx_raise
  | .exX f es => ssx_exX
  | .retX f es => ssx_retX
  | .retXA f es g gs => ssx_retXA
  | .asgX i f es => ssx_asgX
  | .loopF i fs body => ssx_loopF (sssAll body)
theorem sssAll : ∀ ss : List Stm, SSsX p γ n S ss
  | [] => sssx_nil
  | s :: ss => sssx_cons (ssAll s) (sssAll ss)
end
end
end Ev

/-! Ev24: every def keeps its promise. -/
namespace Ev
open PySem PySem.Spec L2
section
variable {K : Frag} {γ : Gt} {F H : Hp} {lent : List Nat}
/-- the arguments, place by place -/
theorem ArgsR.places : ∀ {k : Nat} {vs : List V} {ds : List PV} {as : List Addr}, ArgsR K F H lent k vs ds as → ds.length = vs.length ∧ ∃ I : List (Nat × Addr), I.map (·.2) = as ∧ I.map (·.1) = (List.range' k vs.length).filter lent.contains ∧ (∀ p ∈ I, k ≤ p.1) ∧
    (∀ j d, ds[j]? = some d → (lent.contains (k + j) = false ∧ ∃ v, vs[j]? = some v ∧ Rp K F v d) ∨ (lent.contains (k + j) = true ∧ ∃ a, vs[j]? = some (.ref a) ∧ (k + j, a) ∈ I ∧ F a = none ∧ OwnR K F H a d)) ∧
    ∀ p ∈ I, ∃ d, ds[p.1 - k]? = some d ∧ lent.contains p.1 = true ∧ vs[p.1 - k]? = some (.ref p.2)
  | k, _, _, _, .nil => ⟨rfl, [], rfl, rfl, fun p hp => (by cases hp), fun j d h => (by simp at h), fun p hp => (by cases hp)⟩
  | k, _, _, _, .val (v := v) (vs := vs) (d := d) (ds := ds) (as := as) hc r t => by
    obtain ⟨l, I, h1, h2, h3, h4, h5⟩ := ArgsR.places t
    refine ⟨by simp [l], I, h1, ?_, fun p hp => Nat.le_of_succ_le (h3 p hp), fun j e h => ?_, fun p hp => ?_⟩
    · rw [List.length_cons, List.range'_succ, List.filter_cons, hc]
      simpa using h2
    · cases j with
      | zero =>
        simp only [List.getElem?_cons_zero, Option.some.injEq] at h
        subst h
        exact .inl ⟨hc, v, rfl, r⟩
      | succ j =>
        rw [List.getElem?_cons_succ] at h
        have w := h4 j e h
        rw [show k + 1 + j = k + (j + 1) by omega] at w
        simpa using w
    · obtain ⟨d', g1, g2, g3⟩ := h5 p hp
      have := h3 p hp
      refine ⟨d', ?_, g2, ?_⟩
      · rw [show p.1 - k = (p.1 - (k + 1)) + 1 by omega, List.getElem?_cons_succ]; exact g1
      · rw [show p.1 - k = (p.1 - (k + 1)) + 1 by omega, List.getElem?_cons_succ]; exact g3
  | k, _, _, _, .lent (a := a) (vs := vs) (d := d) (ds := ds) (as := as) hc hn ro t => by
    obtain ⟨l, I, h1, h2, h3, h4, h5⟩ := ArgsR.places t
    refine ⟨by simp [l], (k, a) :: I, by simp [h1], ?_, fun p hp => ?_, fun j e h => ?_, fun p hp => ?_⟩
    · rw [List.length_cons, List.range'_succ, List.filter_cons, hc]
      simpa using h2
    · rcases List.mem_cons.mp hp with rfl | hp
      · exact Nat.le_refl _
      · exact Nat.le_of_succ_le (h3 p hp)
    · cases j with
      | zero =>
        simp only [List.getElem?_cons_zero, Option.some.injEq] at h
        subst h
        exact .inr ⟨hc, a, rfl, by simp, hn, ro⟩
      | succ j =>
        rw [List.getElem?_cons_succ] at h
        have w := h4 j e h
        rw [show k + 1 + j = k + (j + 1) by omega] at w
        rcases w with w | ⟨w1, b, w2, w3, w4⟩
        · exact .inl (by simpa using w)
        · exact .inr ⟨w1, b, by simpa using w2, List.mem_cons_of_mem _ w3, w4⟩
    · rcases List.mem_cons.mp hp with rfl | hp
      · exact ⟨d, by simp, hc, by simp⟩
      · obtain ⟨d', g1, g2, g3⟩ := h5 p hp
        have := h3 p hp
        refine ⟨d', ?_, g2, ?_⟩
        · rw [show p.1 - k = (p.1 - (k + 1)) + 1 by omega, List.getElem?_cons_succ]; exact g1
        · rw [show p.1 - k = (p.1 - (k + 1)) + 1 by omega, List.getElem?_cons_succ]; exact g3
theorem start_get {d : Ev.Def} {args : List PV} (i : Nat) {x : Slot} (h : (d.start args)[i]? = some x) : (∃ e, args[i]? = some e ∧ x = if d.lent.contains i then .io e else .frz e) ∨ (args.length ≤ i ∧ x = .emp) := by
  unfold Def.start at h
  by_cases hi : i < args.length
  · left
    rw [List.getElem?_append_left (by simpa using hi), List.getElem?_map, List.getElem?_zipIdx] at h
    rw [List.getElem?_eq_getElem hi] at h ⊢
    simp only [Option.map_some, Nat.zero_add, Option.some.injEq] at h
    exact ⟨_, rfl, h.symm⟩
  · right
    rw [List.getElem?_append_right (by simpa using hi)] at h
    refine ⟨by omega, ?_⟩
    have := List.mem_of_getElem? h
    exact List.eq_of_mem_replicate this
theorem vstart_get {N : List Str} {vs : List V} {i : Nat} {v : V} (h : vs[i]? = some v) : (L2.start N vs)[i]? = some (some v) := by
  have hi := (List.getElem?_eq_some_iff.mp h).1
  unfold L2.start
  rw [List.getElem?_append_left (by simpa using hi), List.getElem?_map, h]
  rfl
theorem outs_ok {B : Bs} {F' H' : Hp} {σ : L2.St} {s : Env} (en : EnvR K γ B F' H' σ s) : ∀ {I : List (Nat × Addr)} {os : List PV}, (∀ p ∈ I, p ∈ B.I) → outs s (I.map (·.1)) = some os → Paired (fun a o => OwnR K F' H' a o) (I.map (·.2)) os
  | [], os, _, h => by cases h; exact .nil
  | p :: I, os, hI, h => by
    obtain ⟨d, g1, g2⟩ := en.lent p (hI p (by simp))
    have h : outs s (p.1 :: I.map (·.1)) = some os := h
    unfold outs at h
    rw [g1] at h
    have h : (outs s (I.map (·.1))).map (d :: ·) = some os := h
    cases ho : outs s (I.map (·.1)) with
    | none => rw [ho] at h; cases h
    | some o2 =>
      rw [ho] at h
      cases h
      obtain ⟨a, w1, _, _, w4⟩ := en.slot p.1 _ g1
      rw [g2] at w1
      cases w1
      exact .cons w4 (outs_ok en (fun q hq => hI q (by simp [hq])) ho)
end
/-! ### what is known of the program -/
def defOk (fns gs : List Str) (xs : List (Str × Option Str)) (met : Option (Nat × MetD)) (gds : List Nat) (gd : Bool) (d : Ev.Def) (st : Stmt) : Bool :=
  decide (d.np ≤ d.N.length) && decide (d.lent = (List.range' 0 d.np).filter d.lent.contains) && chkSs ⟨d.N, fns, gs, xs, d.lam, met, gds, gd⟩ (defScope st) d.body (defBody st)
def LamD (d : Ev.Def) (mg : Str → Option Value) (base : Heap) (γ : Gt) (fd : FuncData) : Prop := d.lam = true → ∃ c P, fd.code = .ref c ∧ LamX.TabB base mg c P ∧ (P, d.nm ++ ".<locals>." ++ "<lambda>") ∈ γ.tb ∧ ∀ q ∈ γ.tb, q.1 = P → q.2 = d.nm ++ ".<locals>." ++ "<lambda>"
inductive FunsR (P : Program) (w : World) (K : Frag) (mg : Str → Option Value) (base : Heap) (γ : Gt) (fns gs : List Str) (xs : List (Str × Option Str)) (met : Option (Nat × MetD)) (gds : List Nat) : List Ev.Def → List Stmt → Prop
  | nil : FunsR P w K mg base γ fns gs xs met gds [] []
  | cons {d : Ev.Def} {st : Stmt} {ds : List Ev.Def} {sts : List Stmt} {fa : Addr} {fd : FuncData} : Fun K d.nm d.nm st fa fd → mg d.nm = some (.ref fa) → LamD d mg base γ fd → Binds K fd (d.N.take d.np) [] → FnScope d.N (d.N.take d.np) (defScope st) → defOk fns gs xs met gds d.gd d st = true → FunsR P w K mg base γ fns gs xs met gds ds sts → FunsR P w K mg base γ fns gs xs met gds (d :: ds) (st :: sts)
structure WF (p : Prg) (P : Program) (w : World) (K : Frag) (mg : Str → Option Value) (base : Heap) (γ : Gt) (fns gs : List Str) (xs : List (Str × Option Str)) (met : Option (Nat × MetD)) (gds : List Nat) (sts : List Stmt) : Prop where
  blt : ∀ x ∈ bltNames, mg x = none
  con : ∀ (g : Nat) (x : Str) (d : PV), gs[g]? = some x → p.G[g]? = some d → ∃ v u, mg x = some u ∧ RelV v u ∧ ∀ H : Hp, Rp K H v d
  nms : fns = p.defs.map (·.nm)
  fas : ∀ (f : Nat) (x : Str), fns[f]? = some x → gds.contains f = false → ∃ fa, mg x = some (.ref fa) ∧ γ.fs f = some fa
  fasN : ∀ (f : Nat) (fa : Addr), γ.fs f = some fa → ∃ x, fns[f]? = some x ∧ gds.contains f = false
  gdk : (p.defs.zipIdx.all fun q => gds.contains q.2 == q.1.gd) = true
  exs : ∀ (k : Nat) (y : Str) (fo : Option Str), xs[k]? = some (y, fo) → ∃ C, γ.ex[k]? = some (C, fo) ∧ XOk K mg y C fo
  mt : ∀ (m : Nat) (d : MetD), met = some (m, d) → MetOk γ fns xs m d K mg base
  exm : ∀ (k j : Nat) (C D : Addr) (fo go : Option Str), γ.ex[k]? = some (C, fo) → γ.ex[j]? = some (D, go) → PySem.W.exmOne K (.ref C) (.ref D) = some (decide (k = j))
  fun_ : FunsR P w K mg base γ fns gs xs met gds p.defs sts
section
variable {p : Prg} {P : Program} {w : World} {K : Frag} {γ : Gt} {mg : Str → Option Value} {base : Heap} {fns gs : List Str} {xs : List (Str × Option Str)} {met : Option (Nat × MetD)} {gds : List Nat} {sts : List Stmt}
theorem FunsR.at : ∀ {ds : List Ev.Def} {sts : List Stmt}, FunsR P w K mg base γ fns gs xs met gds ds sts → ∀ {f : Nat} {d : Ev.Def}, ds[f]? = some d → ∃ st fa fd, Fun K d.nm d.nm st fa fd ∧ mg d.nm = some (.ref fa) ∧ LamD d mg base γ fd ∧ Binds K fd (d.N.take d.np) [] ∧ FnScope d.N (d.N.take d.np) (defScope st) ∧ defOk fns gs xs met gds d.gd d st = true
  | _, _, .nil, f, d, h => by simp at h
  | _, _, .cons h1 h2 hl h3 h4 h5 t, f, d, h => by
    cases f with
    | zero => cases h; exact ⟨_, _, _, h1, h2, hl, h3, h4, h5⟩
    | succ f => exact FunsR.at t (by simpa using h)
theorem WF.gd (W : WF p P w K mg base γ fns gs xs met gds sts) {f : Nat} {d : Ev.Def} (h : p.defs[f]? = some d) : gds.contains f = d.gd := by
  have := List.all_eq_true.mp W.gdk (d, f) (List.mem_of_getElem? (i := f) (by rw [List.getElem?_zipIdx, h]; simp))
  simpa using this
/-- a def's promise, where no repr runs around if it wants to know that -/
structure FnD (P : Program) (w : World) (K : Frag) (mg : Str → Option Value) (base : Heap) (C : CXT) (b : Bool) (k : Nat) (f : Addr) (fd : FuncData) (ps : List Str) (sp : Sp) : Prop where
  len : ∀ vs H Q E, sp vs H Q E → vs.length = ps.length
  run : ∀ (A : Around) (outer : List PySem.Env) (s : Shared) (H : Hp) (args : Args) (us : List Value) (vs : List V) (Q : VK) (E : XK), (b = true → A.guards = some []) → Room k A → Env0 P w K mg base A outer s H → BindsTo s fd args (ps.zip us) → Vals vs us → sp vs H Q E →
    codeAny (model P w) A (.call (.ref f) args) (CR C outer P w H s Q E) s
theorem FnD.ok {C : CXT} {k : Nat} {f : Addr} {fd : FuncData} {ps : List Str} {sp : Sp} {b : Bool} (F : FnD P w K mg base C b k f fd ps sp) (h : b = false) : FnOk P w K mg base C k f fd ps sp := ⟨F.len, fun A outer s H args us vs Q E hr e0 hb r q => F.run A outer s H args us vs Q E (fun z => by rw [h] at z; cases z) hr e0 hb r q⟩
theorem FnD.g {C : CXT} {k : Nat} {f : Addr} {fd : FuncData} {ps : List Str} {sp : Sp} {b : Bool} (F : FnD P w K mg base C b k f fd ps sp) : FnG P w K mg base C k f fd ps sp := ⟨F.len, fun A outer s H args us vs Q E g hr e0 hb r q => F.run A outer s H args us vs Q E (fun _ => g) hr e0 hb r q⟩
def Promise (p : Prg) (γ : Gt) (P : Program) (w : World) (K : Frag) (mg : Str → Option Value) (base : Heap) (n f : Nat) (x : Str) (d : Ev.Def) : Prop :=
  ∃ fa fd ps, mg x = some (.ref fa) ∧ PySem.W.keepIn K (.ref fa) = true ∧ Binds K fd ps [] ∧ FnD P w K mg base (CX P w) d.gd (5 * n) fa fd ps (spF K γ p n f) ∧ (∃ st, Fun K x x st fa fd) ∧ ∀ d, p.defs[f]? = some d → ps = d.N.take d.np
theorem never_ok {n f : Nat} {b : Bool} {fa : Addr} {fd : FuncData} {ps : List Str} (h : ∀ vs H Q E, ¬ spF K γ p n f vs H Q E) : FnD P w K mg base (CX P w) b (5 * n) fa fd ps (spF K γ p n f) :=
  ⟨fun vs H Q E q => (h _ _ _ _ q).elim, fun A outer s H args us vs Q E _ _ _ _ _ q => (h _ _ _ _ q).elim⟩
theorem okD {x qual : Str} {st : Stmt} {f : Addr} {fd : FuncData} {N ps : List Str} {k : Nat} {sp : Sp} {b : Bool} (F : Fun K x qual st f fd) (S : FnScope N ps (defScope st)) (len : ∀ vs H Q E, sp vs H Q E → vs.length = ps.length)
    (hbody : ∀ (cdv : Value), fd.code = cdv → ∀ (A : Around) (outer : List PySem.Env) (s : Shared) (H : Hp) (vs : List V) (Q : VK) (E : XK), (b = true → A.guards = some []) → Room k (A.deeper (PyProof.Rows.envOfC qual (defScope st) s.heap.objs.size f cdv)) → sp vs H Q E →
      ∃ t, PSs (cxOf (L2.CX P w) P w K mg base N qual (defScope st) f cdv A outer s H E) (defBody st) t ∧ t { nx := fun _ H' => Q .non H', rt := Q } (L2.start N vs) H) : FnD P w K mg base (L2.CX P w) b (k + 1) f fd ps sp := by
  obtain ⟨oc, od, kV, doc, pm, an, cdv, ct, osl, rfl, lk, hcd⟩ := F.ex
  exact ⟨len, fun A outer s H args us vs Q E hg hr e0 hb r q => LamX.run_ofS lk hcd S hr e0 hb r (len _ _ _ _ q) fun hr' => hbody cdv rfl A outer s H vs Q E hg hr' q⟩
/-- THE THEOREM: what the evaluator tells, the def does -/
theorem all_ok (W : WF p P w K mg base γ fns gs xs met gds sts) : ∀ (n f : Nat) (d : Ev.Def), p.defs[f]? = some d → Promise p γ P w K mg base n f d.nm d
  | 0, f, d, hd => by
    obtain ⟨st, fa, fd, h1, h2, hlam, h3, h4, h5⟩ := W.fun_.at hd
    refine ⟨fa, fd, _, h2, h1.kp, h3, never_ok fun vs H Q E q => ?_, ⟨st, h1⟩, fun d' hd' => by rw [hd] at hd'; cases hd'; rfl⟩
    obtain ⟨F, args, as, _, _, _, _, _, hq⟩ := q
    rcases hq with ⟨r, os, hΦ, _⟩ | ⟨_, k, v, hΦ, _⟩ <;> cases hΦ
  | n + 1, f, d, hd => by
    obtain ⟨st, fa, fd, h1, h2, hlam, h3, h4, h5⟩ := W.fun_.at hd
    refine ⟨fa, fd, _, h2, h1.kp, h3, ?_, ⟨st, h1⟩, fun d' hd' => by rw [hd] at hd'; cases hd'; rfl⟩
    unfold defOk at h5
    simp only [Bool.and_eq_true, decide_eq_true_eq] at h5
    obtain ⟨⟨h5, h6⟩, h7⟩ := h5
    have run : ∀ {args : List PV} {r : Rv} {os : List PV}, p.Φ (n + 1) f args = some (r, os) → args.length = d.np ∧ ∃ fl s', evSs (p.cf n) d.body (d.start args) = .ok fl s' ∧ outs s' d.lent = some os ∧ ((fl = .ret r ∧ ((∃ v, r = .frz v) ∨ ∃ v, r = .own v)) ∨ (fl = .next ∧ r = .frz .none)) := fun {args r os} h => by
      rw [Prg.Φ_succ, hd] at h
      have h : runDef (p.cf n) d args = some (r, os) := h
      unfold runDef at h
      split at h
      · rename_i hn
        refine ⟨hn.1, ?_⟩
        split at h
        · rename_i v s' e
          cases ho : outs s' d.lent with
          | none => rw [ho] at h; cases h
          | some o => rw [ho] at h; cases h; exact ⟨_, s', e, ho, .inl ⟨rfl, .inl ⟨_, rfl⟩⟩⟩
        · rename_i v s' e
          cases ho : outs s' d.lent with
          | none => rw [ho] at h; cases h
          | some o => rw [ho] at h; cases h; exact ⟨_, s', e, ho, .inl ⟨rfl, .inr ⟨_, rfl⟩⟩⟩
        · rename_i s' e
          cases ho : outs s' d.lent with
          | none => rw [ho] at h; cases h
          | some o => rw [ho] at h; cases h; exact ⟨_, s', e, ho, .inr ⟨rfl, rfl⟩⟩
        · cases h
      · cases h
    have runX : ∀ {args : List PV} {k : Nat} {v : PV}, p.Ξ (n + 1) f args = some (k, v) → args.length = d.np ∧ evSs (p.cf n) d.body (d.start args) = .exc k v := fun {args k v} h => by
      rw [Prg.Ξ_succ, hd] at h
      have h : Ev.runX (p.cf n) d args = some (k, v) := h
      unfold Ev.runX at h
      split at h
      · rename_i hn
        refine ⟨hn.1, ?_⟩
        split at h
        · rename_i e; cases h; exact e
        · cases h
      · cases h
    refine okD h1 h4 (fun vs H Q E q => ?_) fun cdv hcode A outer s H vs Q E hgd hr q => ?_
    · obtain ⟨F, args, as, _, _, _, ha, _, hq⟩ := q
      obtain ⟨l, _⟩ := ha.places
      have la : args.length = d.np := by
        rcases hq with ⟨r, os, hΦ, _⟩ | ⟨_, k, v, hΦ, _⟩
        · exact (run hΦ).1
        · exact (runX hΦ).1
      rw [← l, la, List.length_take]
      omega
    · obtain ⟨F, args, as, sub, htab, hftb, ha, nd, hq⟩ := q
      obtain ⟨l, I, i1, i2, i3, i4, i5⟩ := ha.places
      have la : args.length = d.np := by
        rcases hq with ⟨r, os, hΦ, _⟩ | ⟨_, k, v, hΦ, _⟩
        · exact (run hΦ).1
        · exact (runX hΦ).1
      have hl : p.lent f = d.lent := by unfold Prg.lent; rw [hd]
      rw [hl] at i2 i4 i5
      have hI : I.map (·.1) = d.lent := by
        rw [i2, ← l, la]
        exact h6.symm
      have xc : XC p γ n ⟨d.N, fns, gs, xs, d.lam, met, gds, d.gd⟩ (cxOf (CX P w) P w K mg base d.N d.nm (defScope st) fa cdv A outer s H E) := by
        refine ⟨rfl, h4.nd, rfl, hr.mono (by show 5 * n + (if d.lam = true then 4 else 0) ≤ 5 * n + 4; split <;> omega), W.blt, W.con, fun g x hx hgf => ?_, W.fas, fun g x hx hgf => ?_, hgd, W.exs, fun hlm => ?_, W.mt, W.exm, W.fasN⟩
        case refine_3 =>
          obtain ⟨cc, P', z1, z2, z3, z4⟩ := hlam hlm
          exact ⟨cc, P', hcode.symm.trans z1, z2, z3, z4⟩
        all_goals
          rw [W.nms] at hx
          have hx : (p.defs.map (·.nm))[g]? = some x := hx
          rw [List.getElem?_map] at hx
          cases hg : p.defs[g]? with
          | none => rw [hg] at hx; cases hx
          | some dg =>
            rw [hg] at hx
            injection hx with hx
            subst hx
            obtain ⟨fa, fd, ps, a1, a2, a3, a4, _⟩ := all_ok W n g dg hg
            first | exact ⟨fa, fd, ps, a1, a2, a3, a4.ok ((W.gd hg).symm.trans hgf)⟩ | exact ⟨fa, fd, ps, a1, a2, a3, a4.g⟩
      refine ⟨_, sssAll d.body _ (fun cls d _ H => E cls d H) (defBody st) xc ⟨passes_of rfl, fun _ => rfl⟩ (takes_of rfl rfl rfl rfl) h7, ?_⟩
      let B : Bs := ⟨noTb H, F, I, [], noTb_no H⟩
      have en : EnvR K γ B F H (L2.start d.N vs) (d.start args) := by
        refine ⟨sub, ?_, fun i x hx => ?_, fun i j x y a g1 g2 o1 o2 e1 e2 => ?_, fun p hp => (by cases hp), fun p hp => (by cases hp), List.nodup_nil, fun q hq => ?_, fun a o h _ => noTb_sub H a o h, fun a o h => .inl h, Sub.refl F, htab, hftb⟩
        · unfold Def.start L2.start
          simp [l]
        · rcases start_get i hx with ⟨e, he, rfl⟩ | ⟨_, rfl⟩
          · rcases i4 i e he with ⟨c1, v, c2, c3⟩ | ⟨c1, a, c2, c3, c4, c5⟩
            · rw [Nat.zero_add] at c1
              rw [c1]
              exact ⟨v, vstart_get c2, c3⟩
            · rw [Nat.zero_add] at c1 c3
              rw [c1]
              exact ⟨a, vstart_get c2, c3, c4, c5⟩
          · trivial
        · have own : ∀ {i : Nat} {x : Slot}, (d.start args)[i]? = some x → isOwn x = true → ∃ a, (L2.start d.N vs)[i]? = some (some (.ref a)) ∧ (i, a) ∈ I := fun {i x} g o => by
            rcases start_get i g with ⟨e, he, rfl⟩ | ⟨_, rfl⟩
            · rcases i4 i e he with ⟨c1, v, c2, c3⟩ | ⟨c1, a, c2, c3, c4, c5⟩
              · rw [Nat.zero_add] at c1
                rw [c1] at o
                cases o
              · rw [Nat.zero_add] at c3
                exact ⟨a, vstart_get c2, c3⟩
            · cases o
          obtain ⟨a1, e3, m1⟩ := own g1 o1
          obtain ⟨a2, e4, m2⟩ := own g2 o2
          rw [e1] at e3
          rw [e2] at e4
          cases e3
          cases e4
          rw [← i1] at nd
          have inj : ∀ {I : List (Nat × Addr)}, (I.map (·.2)).Nodup → (i, a) ∈ I → (j, a) ∈ I → i = j := fun {I} => by
            induction I with
            | nil => intro _ h _; cases h
            | cons q I ih =>
              intro nd h1 h2
              obtain ⟨n1, n2⟩ := List.nodup_cons.mp (show (q.2 :: I.map (·.2)).Nodup from nd)
              rcases List.mem_cons.mp h1 with h1 | h1 <;> rcases List.mem_cons.mp h2 with h2 | h2
              · rw [← h1] at h2; cases h2; rfl
              · rw [← h1] at n1; exact (n1 (List.mem_map.mpr ⟨_, h2, rfl⟩)).elim
              · rw [← h2] at n1; exact (n1 (List.mem_map.mpr ⟨_, h1, rfl⟩)).elim
              · exact ih n2 h1 h2
          exact inj nd m1 m2
        · obtain ⟨d', g1, g2, g3⟩ := i5 q hq
          rw [Nat.sub_zero] at g1 g3
          refine ⟨d', ?_, vstart_get g3⟩
          cases hs : (d.start args)[q.1]? with
          | none =>
            have h9 := List.getElem?_eq_none_iff.mp hs
            have := (List.getElem?_eq_some_iff.mp g1).1
            unfold Def.start at h9
            simp at h9
            omega
          | some x =>
            rcases start_get q.1 hs with ⟨e, he, rfl⟩ | ⟨h9, rfl⟩
            · rw [g1] at he
              cases he
              rw [g2]
              rfl
            · have := (List.getElem?_eq_some_iff.mp g1).1
              omega
      refine ⟨B, d.start args, F, en, ?_⟩
      have keep : ∀ {σ' H' F' s'}, EnvR K γ B F' H' σ' s' → ∀ a o, H a = some o → (∀ ps, o ≠ .tbl ps) → a ∉ as → H' a = some o := fun e1 a o ho nt na => e1.keep a o (noTb_at ho nt) fun q hq z => na (by rw [← i1, ← z]; exact List.mem_map.mpr ⟨q, hq, rfl⟩)
      rcases hq with ⟨r, os, hΦ, k⟩ | ⟨has, kx, v, hΦ, k⟩
      · obtain ⟨_, fl, s', hev, hou, hres⟩ := run hΦ
        rw [hev]
        intro σ' H' F' q1 e1
        have post : ∀ {v : V}, ResR K (noTb H) F' H' v r → Q v H' := fun {v} hr => k v F' H' ⟨q1, e1.fh, keep e1, fun a o ho => e1.fnew a o ho, by
          rw [← i1]
          rw [← hI] at hou
          exact outs_ok e1 (fun q hq => hq) hou, hr, e1.tab, e1.ftb⟩
        rcases hres with ⟨rfl, hr⟩ | ⟨rfl, rfl⟩
        · intro v rv
          rcases hr with ⟨d2, rfl⟩ | ⟨d2, rfl⟩
          · exact post rv
          · obtain ⟨a, rfl, c1, c2, c3, _⟩ := rv
            exact post ⟨a, rfl, c2, c1, c3⟩
        · exact post (v := .non) .non
      · obtain ⟨_, hev⟩ := runX hΦ
        rw [hev]
        intro σ' H' F' s' cls dd q1 e1 xr
        exact k cls dd F' H' ⟨q1, e1.fh, fun a o ho nt => keep e1 a o ho nt (by rw [has]; simp), fun a o ho => e1.fnew a o ho, e1.tab, e1.ftb, xr⟩
/-- the law's own def -/
theorem law_at (W : WF p P w K mg base γ fns gs xs met gds sts) {n f : Nat} {d : Ev.Def} (hd : p.defs[f]? = some d) {fa : Addr} {fd : FuncData} {x : Str} {st : Stmt} (hm : mg x = some (.ref fa)) (hx : d.nm = x) (F : Fun K x x st fa fd) : FnD P w K mg base (CX P w) d.gd (5 * n) fa fd (d.N.take d.np) (spF K γ p n f) := by
  obtain ⟨fa', fd', ps, h1, h2, h3, h4, ⟨st', h5⟩, h6⟩ := all_ok W n f d hd
  rw [hx, hm] at h1
  cases h1
  obtain ⟨oc, od, kV, doc, pm, an, cdv, ct, osl, e1, e2, _⟩ := F.ex
  obtain ⟨oc', od', kV', doc', pm', an', cdv', ct', osl', e1', e2', _⟩ := h5.ex
  rw [e2] at e2'
  have e3 : fd = fd' := by
    injection e2' with e2'
    injection e2' with _ _ e2' _
    injection e2'
  subst e3
  rw [h6 d hd] at h4
  exact h4
theorem law_spec {n f : Nat} {H : Hp} {a : Addr} {ns : List Int} (hT : LamX.Tabs γ.tb H) (hS : SqL K H a (ns.map V.int)) (hl : (p.lent f).contains 0 = false) (h : p.Φ n f [scriptV ns] = some (.frz (.bool true), [])) : spF K γ p n f [.ref a] H (fun v _ => v = .bl true) fun _ _ _ => False := by
  have ra : ∀ ns : List Int, RpAll K (noTb H) (ns.map V.int) (ns.map PyData.int) := fun ns => by
    induction ns with
    | nil => exact .nil
    | cons n ns ih => exact .cons (.int n) ih
  have hS' : SqL K (noTb H) a (ns.map V.int) := by
    rcases hS with (h | ⟨o, h⟩) | h
    · exact .inl (.inl (noTb_at h fun _ z => by cases z))
    · exact .inl (.inr ⟨o, noTb_at h fun _ z => by cases z⟩)
    · exact .inr h
  refine ⟨noTb H, [scriptV ns], [], noTb_sub H, hT, noTb_no H, .val hl (.scr hS' (ra ns)) .nil, List.nodup_nil, .inl ⟨.frz (.bool true), [], h, fun v F' H' po => ?_⟩⟩
  have r : Rp K F' v (.bool true) := po.res
  cases r
  rfl
end
end Ev

/-! Ev25: how a run is told. -/
namespace Ev
open PySem PySem.Spec L2
theorem optD {α : Type} (o : Option α) (s : Env) : M.opt o s = match o with | some a => .ok a s | none => .stuck := rfl
/-- a def's run -/
theorem phi_run {p : Prg} {n f : Nat} {d : Ev.Def} {args : List PV} (hd : p.defs[f]? = some d) : p.Φ (n + 1) f args = runDef (p.cf n) d args := by
  rw [Prg.Φ_succ, hd]
theorem run_frz {c : Cf} {d : Ev.Def} {args : List PV} {v : PV} {s : Env} {os : List PV} (h1 : args.length = d.np) (h2 : d.np ≤ d.N.length) (h : evSs c d.body (d.start args) = .ok (.ret (.frz v)) s) (ho : outs s d.lent = some os) : runDef c d args = some (.frz v, os) := by
  unfold runDef
  rw [if_pos ⟨h1, h2⟩, h]
  show (outs s d.lent).map _ = _
  rw [ho]
  rfl
theorem run_own {c : Cf} {d : Ev.Def} {args : List PV} {v : PV} {s : Env} {os : List PV} (h1 : args.length = d.np) (h2 : d.np ≤ d.N.length) (h : evSs c d.body (d.start args) = .ok (.ret (.own v)) s) (ho : outs s d.lent = some os) : runDef c d args = some (.own v, os) := by
  unfold runDef
  rw [if_pos ⟨h1, h2⟩, h]
  show (outs s d.lent).map _ = _
  rw [ho]
  rfl
theorem run_next {c : Cf} {d : Ev.Def} {args : List PV} {s : Env} {os : List PV} (h1 : args.length = d.np) (h2 : d.np ≤ d.N.length) (h : evSs c d.body (d.start args) = .ok .next s) (ho : outs s d.lent = some os) : runDef c d args = some (.frz .none, os) := by
  unfold runDef
  rw [if_pos ⟨h1, h2⟩, h]
  show (outs s d.lent).map _ = _
  rw [ho]
  rfl
/-! ### loops -/
/-- a comprehension whose turns are told -/
theorem lc_told {vs : List Nat} {f : PV → M (Option PV)} {h : Env} (g : PV → Option PV) : ∀ {xs acc : List PV}, (∀ x ∈ xs, ∃ s', f x h = .ok (g x) s' ∧ hideM vs s' = .ok () h) → lcLoop vs f xs acc h = .ok (acc ++ xs.filterMap g) h
  | [], acc, _ => by simp [lcLoop, pure_def]
  | x :: xs, acc, H => by
    obtain ⟨s', h1, h2⟩ := H x (by simp)
    have ih := lc_told (vs := vs) (f := f) (h := h) g (xs := xs) (acc := match g x with | some v => acc ++ [v] | none => acc) fun y hy => H y (by simp [hy])
    show (do let r ← f x; hideM vs; lcLoop vs f xs (match r with | some v => acc ++ [v] | none => acc) : M (List PV)) h = _
    rw [bind_def, h1, andThen_ok, bind_def, h2, andThen_ok]
    rw [ih]
    cases hg : g x with
    | none => rw [List.filterMap_cons_none hg]
    | some v => rw [List.filterMap_cons_some hg]; simp
theorem lcAll_told {vs : List Nat} {f : PV → M (Option PV)} {xs : List PV} {s0 h : Env} (g : PV → Option PV) (hh : hideM vs s0 = .ok () h) (H : ∀ x ∈ xs, ∃ s', f x h = .ok (g x) s' ∧ hideM vs s' = .ok () h) : lcAll vs f xs s0 = .ok (.own (.list (xs.filterMap g))) (restore vs s0 h) := by
  unfold lcAll
  rw [bind_def, hh, andThen_ok, lc_told g H, List.nil_append]
  rfl
theorem lcAll_map {vs : List Nat} {f : PV → M (Option PV)} {xs : List PV} {s0 h : Env} (g : PV → PV) (hh : hideM vs s0 = .ok () h) (H : ∀ x ∈ xs, ∃ s', f x h = .ok (some (g x)) s' ∧ hideM vs s' = .ok () h) : lcAll vs f xs s0 = .ok (.own (.list (xs.map g))) (restore vs s0 h) := by
  rw [lcAll_told (fun x => some (g x)) hh H, List.filterMap_eq_map']
/-- two clauses, whose turns are told; at most m found -/
theorem lc2_told {vs : List Nat} {f : PV → List PV → M (List PV)} {h : Env} (m : Nat) (g : PV → List PV) : ∀ {xs acc : List PV}, acc.length + (xs.map g).flatten.length ≤ m → (∀ x ∈ xs, ∀ acc : List PV, acc.length ≤ m → ∃ s', f x acc h = .ok (acc ++ g x) s' ∧ hideM vs s' = .ok () h) → lc2Loop vs f xs acc h = .ok (acc ++ (xs.map g).flatten) h
  | [], acc, _, _ => by simp [lc2Loop, pure_def]
  | x :: xs, acc, hm, H => by
    obtain ⟨s', h1, h2⟩ := H x (by simp) acc (by omega)
    have ih := lc2_told (vs := vs) (f := f) (h := h) m g (xs := xs) (acc := acc ++ g x) (by simp only [List.map_cons, List.flatten_cons, List.length_append] at hm ⊢; omega) fun y hy => H y (by simp [hy])
    show (do let a ← f x acc; hideM vs; lc2Loop vs f xs a : M (List PV)) h = _
    rw [bind_def, h1, andThen_ok, bind_def, h2, andThen_ok, ih]
    simp
theorem lc2All_told {vs : List Nat} {f : PV → List PV → M (List PV)} {xs : List PV} {s0 h : Env} (m : Nat) (g : PV → List PV) (hm : (xs.map g).flatten.length ≤ m) (hh : hideM vs s0 = .ok () h) (H : ∀ x ∈ xs, ∀ acc : List PV, acc.length ≤ m → ∃ s', f x acc h = .ok (acc ++ g x) s' ∧ hideM vs s' = .ok () h) : lc2All vs f xs s0 = .ok (.own (.list (xs.map g).flatten)) (restore vs s0 h) := by
  unfold lc2All
  rw [bind_def, hh, andThen_ok, lc2_told m g (by simpa using hm) H, List.nil_append]
  rfl
/-- a for whose turns are told: A, what the names hold -/
theorem for_told {A : Type} {step : PV → M Flow} (S : A → Env) (g : A → PV → A) (P : A → Prop) : ∀ {xs : List PV} {a : A}, P a → (∀ a, ∀ x ∈ xs, P a → step x (S a) = .ok .next (S (g a x)) ∧ P (g a x)) → forLoop step xs (S a) = .ok .next (S (xs.foldl g a)) ∧ P (xs.foldl g a)
  | [], a, ha, _ => ⟨rfl, ha⟩
  | x :: xs, a, ha, H => by
    obtain ⟨h1, h2⟩ := H a x (by simp) ha
    show (do let f ← step x; _ : M Flow) (S a) = _ ∧ _
    rw [bind_def, h1, andThen_ok]
    exact for_told S g P h2 fun a y hy => H a y (by simp [hy])
/-! ### running by rewriting: what stands first is run first -/
/-- the type hangs on what follows, so that a rewriter leaves it alone until it is its turn -/
abbrev OutOf {α β : Type} (_ : α → M β) : Type := RE β
def thn {α β : Type} (r : RE α) (f : α → M β) : OutOf f := r.andThen f
theorem thn_ok {α β : Type} (a : α) (s : Env) (f : α → M β) : (thn (.ok a s) f : RE β) = f a s := rfl
theorem thn_stuck {α β : Type} (f : α → M β) : (thn (.stuck : RE α) f : RE β) = .stuck := rfl
section
variable {c : Cf} {s : Env} {v : PV} {i : Nat}
theorem x_cint {i : Int} : ev c (.cint i) s = .ok (.frz (.int i)) s := rfl
theorem x_cbl {b : Bool} : ev c (.cbl b) s = .ok (.frz (.bool b)) s := rfl
theorem x_cnon : ev c .cnon s = .ok (.frz .none) s := rfl
theorem x_cstr {z : Str} : ev c (.cstr z) s = .ok (.frz (.str z)) s := rfl
theorem x_var : ev c (.var i) s = mVar i s := rfl
theorem x_mv : ev c (.mv i) s = mMv i s := rfl
theorem x_peek : ev c (.peek i) s = mPeek i s := rfl
theorem x_glb {g : Nat} : ev c (.glb g) s = M.opt ((c.G[g]?).map .frz) s := rfl
theorem x_bin {op : Operator} {a b : E} : ev c (.bin op a b) s = thn (ev c a s) fun x s1 => thn (ev c b s1) fun y s2 => thn (opd x s2) fun u s3 => thn (opd y s3) fun v => M.opt (binOp op u v) := rfl
theorem x_neg {a : E} : ev c (.neg a) s = thn (ev c a s) fun x s1 => thn (opd x s1) fun u => (match u with | .int i => pure (.frz (.int (-i))) | _ => M.stuck) := rfl
theorem x_not {a : E} : ev c (.not a) s = thn (ev c a s) fun x s1 => thn (opd x s1) fun u s2 => thn (M.opt (truth u) s2) fun b s3 => .ok (.frz (.bool (!b))) s3 := rfl
theorem x_bop {op : BoolOp} {es : List E} : ev c (.bop op es) s = evB c op es s := rfl
theorem x_cmp {op : CmpOp} {a b : E} : ev c (.cmp op a b) s = thn (ev c a s) fun x s1 => thn (ev c b s1) fun y s2 => thn (opd x s2) fun u s3 => thn (opd y s3) fun v s4 => thn (M.opt (cmpOp op u v) s4) fun r s5 => .ok (.frz (.bool r)) s5 := rfl
theorem x_chain {o1 o2 : CmpOp} {a b d : E} : ev c (.chain o1 o2 a b d) s = thn (ev c a s) fun x s1 => thn (ev c b s1) fun y s2 => thn (opd x s2) fun u s3 => thn (fz y s3) fun v s4 => thn (M.opt (cmpOp o1 u v) s4) fun r => if r then (fun s5 => thn (ev c d s5) fun z s6 => thn (opd z s6) fun w s7 => thn (M.opt (cmpOp o2 v w) s7) fun r2 s8 => .ok (.frz (.bool r2)) s8) else pure (.frz (.bool false)) := by
  show (do let x ← ev c a; _ : M Rv) s = _
  simp only [bind_def]
  rfl
theorem x_ite {t a b : E} : ev c (.ite t a b) s = thn (ev c t s) fun x s1 => thn (opd x s1) fun u s2 => thn (M.opt (truth u) s2) fun k => if k then ev c a else ev c b := rfl
theorem x_tup {es : List E} : ev c (.tup es) s = thn (evA c es s) fun rs s1 => thn (fzs rs s1) fun vs => if vs.length ≤ lim then pure (.frz (.tuple vs)) else M.stuck := rfl
theorem x_lst {es : List E} : ev c (.lst es) s = thn (evA c es s) fun rs s1 => thn (fzs rs s1) fun vs => if vs.length ≤ lim then pure (.own (.list vs)) else M.stuck := rfl
theorem x_dct0 : ev c .dct0 s = .ok (.own (.dict [])) s := rfl
theorem x_idx {a b : E} : ev c (.idx a b) s = thn (ev c a s) fun x s1 => thn (ev c b s1) fun y s2 => thn (opd x s2) fun u s3 => thn (opd y s3) fun v s4 => thn (M.opt (idxOp u v) s4) fun r s5 => .ok (.frz r) s5 := rfl
theorem x_slcL {a lo : E} : ev c (.slcL a lo) s = thn (ev c a s) fun x s1 => thn (ev c lo s1) fun y s2 => thn (opd x s2) fun u s3 => thn (fz y s3) fun v => (match v with | .int i => M.opt (slcOp (some i) none u) | _ => M.stuck) := rfl
theorem x_slcH {a hi : E} : ev c (.slcH a hi) s = thn (ev c a s) fun x s1 => thn (ev c hi s1) fun y s2 => thn (opd x s2) fun u s3 => thn (fz y s3) fun v => (match v with | .int i => M.opt (slcOp none (some i) u) | _ => M.stuck) := rfl
theorem x_isi {T : Ty} {a : E} : ev c (.isi T a) s = thn (ev c a s) fun x s1 => thn (opd x s1) fun u s2 => thn (M.opt (isiOp T u) s2) fun b s3 => .ok (.frz (.bool b)) s3 := rfl
theorem x_blt {b : Blt} {es : List E} : ev c (.blt b es) s = thn (evs c es s) fun rs s1 => thn (opds rs s1) fun vs => M.opt (bltOp b vs) := rfl
theorem x_lrng {es : List E} : ev c (.lrng es) s = thn (evs c es s) fun rs s1 => thn (fzs rs s1) fun vs s2 => thn (M.opt (items .rng vs) s2) fun xs s3 => .ok (.own (.list xs)) s3 := rfl
theorem x_mth {m : Mth} {o : E} {es : List E} : ev c (.mth m o es) s = thn (ev c o s) fun x s1 => thn (opd x s1) fun u0 => if isSeqV u0 then (fun s2 => thn (evs c es s2) fun rs s3 => thn (opd x s3) fun u s4 => thn (opds rs s4) fun vs => M.opt (if isListV u == isListV u0 then mthOp m u vs else none)) else M.stuck := rfl
theorem x_call {f : Nat} {es : List E} : ev c (.call f es) s = thn (evs c es s) fun rs => callFn c f rs := rfl
theorem x_lc {own : List (Str × Nat)} {elt : E} {tg : Tg} {k : ItK} {its ifs : List E} : ev c (.lc own elt tg k its ifs) s = thn (evs c its s) fun rs s1 => thn (fzs rs s1) fun vs s2 => thn (M.opt (items k vs) s2) fun xs s3 => lcAll (own.map (·.2)) (lcTurn c tg ifs elt) xs s3 := rfl
theorem x_turn {tg : Tg} {ifs : List E} {elt : E} {x : PV} : lcTurn c tg ifs elt x s = thn (bindT tg x s) fun _ s1 => thn (evT c ifs s1) fun b => if b then (fun s2 => thn (ev c elt s2) fun r s3 => thn (fz r s3) fun v s4 => .ok (some v) s4) else pure none := by
  show (do bindT tg x; _ : M (Option PV)) s = _
  simp only [bind_def]
  rfl
theorem x_sortK {i : Nat} {key : E} {k : ItK} {its : List E} : ev c (.sortK i key k its) s = thn (evs c its s) fun rs s1 => thn (fzs rs s1) fun vs s2 => thn (M.opt (items k vs) s2) fun xs s3 => thn (lcAll [i] (keyTurn c i key) xs s3) fun r s4 => M.opt (sortKOp xs r) s4 := rfl
theorem x_bestK {mx : Bool} {i : Nat} {key e : E} : ev c (.bestK mx i key e) s = thn (ev c e s) fun r0 s1 => thn (fz r0 s1) fun d s2 => thn (M.opt (lst? d) s2) fun xs s3 => thn (lcAll [i] (keyTurn c i key) xs s3) fun r s4 => M.opt (bestOp mx xs r) s4 := rfl
theorem x_lc2 {own : List (Str × Nat)} {elt : E} {tg : Tg} {k : ItK} {its ifs : List E} {tg1 : Tg} {k1 : ItK} {its1 ifs1 : List E} : ev c (.lc2 own elt tg k its ifs tg1 k1 its1 ifs1) s = thn (evs c its s) fun rs s1 => thn (fzs rs s1) fun vs s2 => thn (M.opt (items k vs) s2) fun xs s3 => lc2All (own.map (·.2)) (lc2Turn c tg ifs elt tg1 k1 its1 ifs1) xs s3 := rfl
theorem x_turn2 {tg : Tg} {ifs : List E} {elt : E} {tg1 : Tg} {k1 : ItK} {its1 ifs1 : List E} {x : PV} {acc : List PV} : lc2Turn c tg ifs elt tg1 k1 its1 ifs1 x acc s = thn (bindT tg x s) fun _ s1 => thn (evT c ifs s1) fun b => if b then (fun s2 => thn (evs c its1 s2) fun rs s3 => thn (fzs rs s3) fun vs s4 => thn (M.opt (items k1 vs) s4) fun ys s5 => lc2In (tgSlots tg1) (lcTurn c tg1 ifs1 elt) ys acc s5) else pure acc := by
  show (do bindT tg x; _ : M (List PV)) s = _
  simp only [bind_def]
  rfl
theorem x_evB1 {op : BoolOp} {e : E} : evB c op [e] s = thn (ev c e s) fun r s1 => thn (fz r s1) fun v s2 => .ok (.frz v) s2 := rfl
theorem x_and {e e2 : E} {es : List E} : evB c .And (e :: e2 :: es) s = thn (ev c e s) fun x s1 => thn (opd x s1) fun u => match u with | .bool false => pure (.frz (.bool false)) | .bool true => evB c .And (e2 :: es) | _ => M.stuck := by
  show (ev c e >>= fun x => opd x >>= fun u => (match u, BoolOp.And with
    | .bool false, .And => pure (.frz (.bool false))
    | .bool true, .And => evB c .And (e2 :: es)
    | .bool true, .Or => pure (.frz (.bool true))
    | .bool false, .Or => evB c .And (e2 :: es)
    | _, _ => M.stuck : M Rv)) s = _
  simp only [bind_def]
  congr 1; funext x s1
  show (opd x s1).andThen _ = _
  congr 1; funext u
  cases u <;> first | rfl | (rename_i b; cases b <;> rfl)
theorem x_or {e e2 : E} {es : List E} : evB c .Or (e :: e2 :: es) s = thn (ev c e s) fun x s1 => thn (opd x s1) fun u => match u with | .bool true => pure (.frz (.bool true)) | .bool false => evB c .Or (e2 :: es) | _ => M.stuck := by
  show (ev c e >>= fun x => opd x >>= fun u => (match u, BoolOp.Or with
    | .bool false, .And => pure (.frz (.bool false))
    | .bool true, .And => evB c .Or (e2 :: es)
    | .bool true, .Or => pure (.frz (.bool true))
    | .bool false, .Or => evB c .Or (e2 :: es)
    | _, _ => M.stuck : M Rv)) s = _
  simp only [bind_def]
  congr 1; funext x s1
  show (opd x s1).andThen _ = _
  congr 1; funext u
  cases u <;> first | rfl | (rename_i b; cases b <;> rfl)
theorem x_evs0 : evs c [] s = .ok [] s := rfl
theorem x_evs1 {e : E} {es : List E} : evs c (e :: es) s = thn (ev c e s) fun r s1 => thn (evs c es s1) fun rs s2 => .ok (r :: rs) s2 := rfl
theorem x_evA0 : evA c [] s = .ok [] s := rfl
theorem x_evA1 {e : E} {es : List E} (h : isStar e = false) : evA c (e :: es) s = thn (ev c e s) fun r s1 => thn (fz r s1) fun v s2 => thn (evA c es s2) fun rs s3 => .ok (.frz v :: rs) s3 := by
  rw [evA_plain h]; rfl
theorem x_evT0 : evT c [] s = .ok true s := rfl
theorem x_evT1 {e : E} {es : List E} : evT c (e :: es) s = thn (ev c e s) fun x s1 => thn (opd x s1) fun u s2 => thn (M.opt (truth u) s2) fun b => if b then evT c es else pure false := rfl
theorem x_opdF : opd (.frz v) s = .ok v s := rfl
theorem x_opdO : opd (.own v) s = .ok v s := rfl
theorem x_opdS : opd (.slot i) s = M.opt ((s[i]?).bind slotVal) s := rfl
theorem x_fzF : fz (.frz v) s = .ok v s := rfl
theorem x_fzO : fz (.own v) s = .ok v s := rfl
theorem x_opds0 : opds [] s = .ok [] s := rfl
theorem x_opds1 {r : Rv} {rs : List Rv} : opds (r :: rs) s = thn (opd r s) fun v s1 => thn (opds rs s1) fun vs s2 => .ok (v :: vs) s2 := rfl
theorem x_fzs0 : fzs [] s = .ok [] s := rfl
theorem x_fzs1 {r : Rv} {rs : List Rv} : fzs (r :: rs) s = thn (fz r s) fun v s1 => thn (fzs rs s1) fun vs s2 => .ok (v :: vs) s2 := rfl
theorem x_pure {α : Type} (a : α) : (pure a : M α) s = .ok a s := rfl
theorem x_opt {α : Type} (a : α) : M.opt (some a) s = .ok a s := rfl
theorem x_mVarF (h : s[i]? = some (.frz v)) : mVar i s = .ok (.frz v) s := by unfold mVar; rw [h]
theorem x_mVarO (h : s[i]? = some (.own v)) : mVar i s = .ok (.frz v) (s.set i (.frz v)) := by unfold mVar; rw [h]
theorem x_mMvF (h : s[i]? = some (.frz v)) : mMv i s = .ok (.frz v) s := by unfold mMv; rw [h]
theorem x_mMvO (h : s[i]? = some (.own v)) : mMv i s = .ok (.own v) (s.set i .emp) := by unfold mMv; rw [h]
theorem x_mPeekF (h : s[i]? = some (.frz v)) : mPeek i s = .ok (.frz v) s := by unfold mPeek; rw [h]
theorem x_mPeekO (h : s[i]? = some (.own v)) : mPeek i s = .ok (.slot i) s := by unfold mPeek; rw [h]
theorem x_mPeekI (h : s[i]? = some (.io v)) : mPeek i s = .ok (.slot i) s := by unfold mPeek; rw [h]
theorem x_isi_ok {T : Ty} (h : isScript v = false) : isiOp T v = some (isiB T v) := by unfold isiOp; rw [h]; rfl
/-! statements -/
theorem x_ss0 : evSs c [] s = .ok .next s := rfl
theorem x_ss1 {a : Stm} {as : List Stm} : evSs c (a :: as) s = thn (evS c a s) fun f => match f with | .next => evSs c as | .brk => pure .brk | .cont => pure .cont | .ret r => pure (.ret r) := rfl
theorem x_sPass : evS c .pass s = .ok .next s := rfl
theorem x_sBrk : evS c .brk s = .ok .brk s := rfl
theorem x_sCont : evS c .cont s = .ok .cont s := rfl
theorem x_sRetN : evS c .retN s = .ok (.ret (.frz .none)) s := rfl
theorem x_sRet {e : E} : evS c (.ret e) s = thn (ev c e s) fun r => match r with | .slot _ => M.stuck | .frz v => pure (.ret (.frz v)) | .own v => pure (.ret (.own v)) := by
  show (do let r ← ev c e; _ : M Flow) s = _
  simp only [bind_def]
  congr 1; funext r; cases r <;> rfl
theorem x_sEx {e : E} : evS c (.ex e) s = thn (ev c e s) fun _ s1 => .ok .next s1 := rfl
theorem x_sAsg {e : E} : evS c (.asg (.name i) e) s = thn (ev c e s) fun r s1 => thn (store i r s1) fun _ s2 => .ok .next s2 := rfl
theorem x_sAsgT {ts : List Tg} {e : E} : evS c (.asg (.tup ts) e) s = thn (ev c e s) fun r s1 => thn (fz r s1) fun v s2 => thn (bindT (.tup ts) v s2) fun _ s3 => .ok .next s3 := rfl
theorem x_sPar {ts : List Nat} {es : List E} : evS c (.par ts es) s = thn (evPar c es s) fun rs s1 => thn (storeAll ts rs s1) fun _ s2 => .ok .next s2 := rfl
theorem x_par0 : evPar c [] s = .ok [] s := rfl
theorem x_par1 {e : E} {es : List E} : evPar c (e :: es) s = thn (ev c e s) fun r => match r with | .slot _ => M.stuck | .frz d => (fun s1 => thn (evPar c es s1) fun rs s2 => .ok (.frz d :: rs) s2) | .own d => (fun s1 => thn (evPar c es s1) fun rs s2 => .ok (.own d :: rs) s2) := rfl
theorem x_sAug {op : Operator} {e : E} : evS c (.aug i op e) s = thn (look i s) fun u s1 => thn (ev c e s1) fun r s2 => thn (opd r s2) fun v s3 => thn (M.opt (match u, v with | .int _, .int _ => binOp op u v | _, _ => none) s3) fun z s4 => thn (store i z s4) fun _ s5 => .ok .next s5 := rfl
theorem x_sSeti {k e : E} : evS c (.seti i k e) s = thn (ev c e s) fun r s1 => thn (fz r s1) fun v s2 => thn (ownVal i s2) fun _ s3 => thn (ev c k s3) fun q s4 => thn (opd q s4) fun j s5 => thn (ownVal i s5) fun u s6 => thn (M.opt (setOp u j v) s6) fun w s7 => thn (setSlot i w s7) fun _ s8 => .ok .next s8 := rfl
theorem x_sAugI {op : Operator} {k e : E} : evS c (.augI i op k e) s = thn (ownVal i s) fun _ s1 => thn (ev c k s1) fun q s2 => thn (opd q s2) fun j s3 => thn (ownVal i s3) fun u s4 => thn (M.opt (augGet u j) s4) fun old s5 => thn (ev c e s5) fun r s6 => thn (opd r s6) fun v s7 => thn (M.opt (augOp op old v) s7) fun z s8 => thn (ownVal i s8) fun u2 s9 => thn (M.opt (setOp u2 j z) s9) fun w s10 => thn (setSlot i w s10) fun _ s11 => .ok .next s11 := rfl
theorem x_sMut {m : Mu} {es : List E} : evS c (.mut m i es) s = thn (ownVal i s) fun u0 => if isListV u0 then (fun s1 => thn (evs c es s1) fun rs s2 => thn (fzs rs s2) fun vs s3 => thn (ownVal i s3) fun u s4 => thn (M.opt (muOp m u vs) s4) fun w s5 => thn (setSlot i w s5) fun _ s6 => .ok .next s6) else M.stuck := rfl
theorem x_sIte {t : E} {a b : List Stm} : evS c (.ite t a b) s = thn (ev c t s) fun x s1 => thn (opd x s1) fun u s2 => thn (M.opt (truth u) s2) fun k => if k then evSs c a else evSs c b := rfl
theorem x_sLoop {tg : Tg} {k : ItK} {its : List E} {body : List Stm} : evS c (.loop tg k its body) s = thn (evs c its s) fun rs s1 => thn (fzs rs s1) fun vs s2 => thn (M.opt (items k vs) s2) fun xs => forLoop (turn c tg body) xs := rfl
theorem x_fturn {tg : Tg} {body : List Stm} {x : PV} : turn c tg body x s = thn (bindT tg x s) fun _ => evSs c body := rfl
theorem x_storeF {y : Slot} (h : s[i]? = some y) (hy : isIo y = false) : store i (.frz v) s = .ok () (s.set i (.frz v)) := by
  unfold store; rw [h]; cases y <;> first | rfl | cases hy
theorem x_storeO {y : Slot} (h : s[i]? = some y) (hy : isIo y = false) : store i (.own v) s = .ok () (s.set i (.own v)) := by
  unfold store; rw [h]; cases y <;> first | rfl | cases hy
theorem x_ownO (h : s[i]? = some (.own v)) : ownVal i s = .ok v s := by unfold ownVal; rw [h]
theorem x_ownI (h : s[i]? = some (.io v)) : ownVal i s = .ok v s := by unfold ownVal; rw [h]
theorem x_setO {w : PV} (h : s[i]? = some (.own v)) : setSlot i w s = .ok () (s.set i (.own w)) := by unfold setSlot; rw [h]
theorem x_setI {w : PV} (h : s[i]? = some (.io v)) : setSlot i w s = .ok () (s.set i (.io w)) := by unfold setSlot; rw [h]
theorem x_bindN {v : PV} : bindT (.name i) v s = store i (.frz v) s := rfl
theorem x_bindT {ts : List Tg} {vs : List PV} (h : vs.length = ts.length) : bindT (.tup ts) (.tuple vs) s = bindTs ts vs s := by
  show (if vs.length = ts.length then bindTs ts vs else M.stuck) s = _
  rw [if_pos h]
theorem x_bindTs0 {vs : List PV} : bindTs [] vs s = .ok () s := rfl
theorem x_bindTs1 {t : Tg} {ts : List Tg} {v : PV} {vs : List PV} : bindTs (t :: ts) (v :: vs) s = thn (bindT t v s) fun _ => bindTs ts vs := rfl
theorem x_sta0 : storeAll [] [] s = .ok () s := rfl
theorem x_sta1 {is : List Nat} {r : Rv} {rs : List Rv} : storeAll (i :: is) (r :: rs) s = thn (storeAll is rs s) fun _ => store i r := rfl
/-! calls -/
theorem x_callFn {f : Nat} {rs : List Rv} : callFn c f rs s = thn (passArgs (c.lent f) 0 rs s) fun p => if p.2.Nodup then (fun s1 => thn (M.opt (c.Φ f p.1) s1) fun r s2 => thn (giveBack p.2 r.2 s2) fun _ s3 => .ok r.1 s3) else M.stuck := rfl
theorem x_pass0 {l : List Nat} {k : Nat} : passArgs l k [] s = .ok ([], []) s := rfl
theorem x_pass1 {l : List Nat} {k : Nat} {r : Rv} {rs : List Rv} : passArgs l k (r :: rs) s = thn (passOne l k r s) fun p s1 => thn (passArgs l (k + 1) rs s1) fun q s2 => .ok (p.1 :: q.1, p.2 ++ q.2) s2 := rfl
theorem x_passF {l : List Nat} {k : Nat} (h : l.contains k = false) : passOne l k (.frz v) s = .ok (v, []) s := by unfold passOne; rw [h]; rfl
theorem x_passO {l : List Nat} {k : Nat} (h : l.contains k = false) : passOne l k (.own v) s = .ok (v, []) s := by unfold passOne; rw [h]; rfl
theorem x_passSo {l : List Nat} {k : Nat} (h : l.contains k = true) (hs : s[i]? = some (.own v)) : passOne l k (.slot i) s = .ok (v, [i]) s := by unfold passOne; rw [h]; simp [hs]
theorem x_passSi {l : List Nat} {k : Nat} (h : l.contains k = true) (hs : s[i]? = some (.io v)) : passOne l k (.slot i) s = .ok (v, [i]) s := by unfold passOne; rw [h]; simp [hs]
theorem x_give0 : giveBack [] [] s = .ok () s := rfl
theorem x_giveO {w : PV} {is : List Nat} {vs : List PV} (hs : s[i]? = some (.own w)) : giveBack (i :: is) (v :: vs) s = giveBack is vs (s.set i (.own v)) := by
  show (match s[i]? with | some (.own _) => giveBack is vs (s.set i (.own v)) | some (.io _) => giveBack is vs (s.set i (.io v)) | _ => .stuck) = _
  rw [hs]
theorem x_giveI {w : PV} {is : List Nat} {vs : List PV} (hs : s[i]? = some (.io w)) : giveBack (i :: is) (v :: vs) s = giveBack is vs (s.set i (.io v)) := by
  show (match s[i]? with | some (.own _) => giveBack is vs (s.set i (.own v)) | some (.io _) => giveBack is vs (s.set i (.io v)) | _ => .stuck) = _
  rw [hs]
theorem x_look : look i s = M.opt ((s[i]?).bind slotVal) s := rfl
/-! the same, by what stands in the slot -/
theorem q_mVar : mVar i s = match s[i]? with | some (.frz v) => .ok (.frz v) s | some (.own v) => .ok (.frz v) (s.set i (.frz v)) | _ => .stuck := rfl
theorem q_mMv : mMv i s = match s[i]? with | some (.frz v) => .ok (.frz v) s | some (.own v) => .ok (.own v) (s.set i .emp) | _ => .stuck := rfl
theorem q_mPeek : mPeek i s = match s[i]? with | some (.frz v) => .ok (.frz v) s | some (.own _) => .ok (.slot i) s | some (.io _) => .ok (.slot i) s | _ => .stuck := rfl
theorem q_storeF : store i (.frz v) s = match s[i]? with | some .emp => .ok () (s.set i (.frz v)) | some (.frz _) => .ok () (s.set i (.frz v)) | some (.own _) => .ok () (s.set i (.frz v)) | some (.fn _) => .ok () (s.set i (.frz v)) | _ => .stuck := by
  unfold store
  cases s[i]? with
  | none => rfl
  | some y => cases y <;> rfl
theorem q_storeO : store i (.own v) s = match s[i]? with | some .emp => .ok () (s.set i (.own v)) | some (.frz _) => .ok () (s.set i (.own v)) | some (.own _) => .ok () (s.set i (.own v)) | some (.fn _) => .ok () (s.set i (.own v)) | _ => .stuck := by
  unfold store
  cases s[i]? with
  | none => rfl
  | some y => cases y <;> rfl
theorem q_ownVal : ownVal i s = match s[i]? with | some (.own v) => .ok v s | some (.io v) => .ok v s | _ => .stuck := rfl
theorem q_setSlot {w : PV} : setSlot i w s = match s[i]? with | some (.own _) => .ok () (s.set i (.own w)) | some (.io _) => .ok () (s.set i (.io w)) | _ => .stuck := rfl
theorem q_bindT {ts : List Tg} {vs : List PV} : bindT (.tup ts) (.tuple vs) s = if vs.length = ts.length then bindTs ts vs s else .stuck := by
  show (if vs.length = ts.length then bindTs ts vs else M.stuck) s = _
  split <;> rfl
theorem q_pass {l : List Nat} {k : Nat} {r : Rv} : passOne l k r s = if l.contains k then (match r with
    | .slot i => match s[i]? with
      | some (.own v) => .ok (v, [i]) s
      | some (.io v) => .ok (v, [i]) s
      | _ => .stuck
    | _ => .stuck) else thn (fz r s) fun v s1 => .ok (v, []) s1 := rfl
theorem q_give {is : List Nat} {vs : List PV} : giveBack (i :: is) (v :: vs) s = match s[i]? with | some (.own _) => giveBack is vs (s.set i (.own v)) | some (.io _) => giveBack is vs (s.set i (.io v)) | _ => .stuck := rfl
/-- the condition of a branch, run -/
theorem q_ite {α : Type} {b : Bool} {x y : M α} : (if b then x else y) s = if b then x s else y s := by cases b <;> rfl
theorem q_pif {α : Type} {P : Prop} [Decidable P] {x y : M α} : (if P then x else y) s = if P then x s else y s := by split <;> rfl
end
/-! ### operators by their forms -/
section
variable {i j k : Int} {x y z w v : PV} {xs ys : List PV} {a b : Bool}
theorem o_add : binOp .Add (.int i) (.int j) = some (.frz (.int (i + j))) := rfl
theorem o_sub : binOp .Sub (.int i) (.int j) = some (.frz (.int (i - j))) := rfl
theorem o_mul (h : mulOk i j = true) : binOp .Mult (.int i) (.int j) = some (.frz (.int (i * j))) := by show (if mulOk i j then _ else _) = _; rw [if_pos h]
theorem o_div (h : 0 < j) (h2 : j < 2 ^ 4000) : binOp .FloorDiv (.int i) (.int j) = some (.frz (.int (i / j))) := by show (if 0 < j ∧ j < 2 ^ 4000 then _ else _) = _; rw [if_pos ⟨h, h2⟩]
theorem o_mod (h : 0 < j) : binOp .Mod (.int i) (.int j) = some (.frz (.int (i % j))) := by show (if 0 < j then _ else _) = _; rw [if_pos h]
theorem o_catT (h : xs.length + ys.length ≤ lim) : binOp .Add (.tuple xs) (.tuple ys) = some (.frz (.tuple (xs ++ ys))) := by show (if _ then _ else _) = _; rw [if_pos h]
theorem o_catL (h : xs.length + ys.length ≤ lim) : binOp .Add (.list xs) (.list ys) = some (.own (.list (xs ++ ys))) := by show (if _ then _ else _) = _; rw [if_pos h]
theorem c_eq : (∀ x j, cmpOp .Eq x (.int j) = eqOp x (.int j)) ∧ (∀ x j, cmpOp .Eq x (.str j) = eqOp x (.str j)) ∧ (∀ x j, cmpOp .Eq x (.bool j) = eqOp x (.bool j)) ∧ (∀ x j, cmpOp .Eq x (.list j) = eqOp x (.list j)) ∧ (∀ x, cmpOp .Eq x .none = eqOp x .none)
    ∧ (∀ x a j, cmpOp .Eq x (.tuple (a :: j)) = eqOp x (.tuple (a :: j))) ∧ (∀ i y, cmpOp .Eq (.int i) y = eqOp (.int i) y) ∧ (∀ i y, cmpOp .Eq (.str i) y = eqOp (.str i) y) ∧ (∀ i y, cmpOp .Eq (.list i) y = eqOp (.list i) y) ∧ ∀ xs, cmpOp .Eq (.tuple xs) (.tuple []) = some xs.isEmpty :=
  ⟨fun x j => by cases x <;> rfl, fun x j => by cases x <;> rfl, fun x j => by cases x <;> rfl, fun x j => by cases x <;> rfl, fun x => by cases x <;> rfl, fun x a j => by cases x <;> rfl, fun _ _ => rfl, fun _ _ => rfl, fun _ _ => rfl, fun _ => rfl⟩
theorem c_ne : cmpOp .NotEq x y = (eqOp x y).map (!·) := rfl
theorem c_lt : cmpOp .Lt (.int i) (.int j) = some (decide (i < j)) := rfl
theorem c_le : cmpOp .LtE (.int i) (.int j) = some (decide (i ≤ j)) := rfl
theorem c_gt : cmpOp .Gt (.int i) (.int j) = some (decide (j < i)) := rfl
theorem c_ge : cmpOp .GtE (.int i) (.int j) = some (decide (j ≤ i)) := rfl
theorem c_isN : cmpOp .Is x .none = some (isNone x) := rfl
theorem c_isnN : cmpOp .IsNot x .none = some (!isNone x) := rfl
theorem c_isB : cmpOp .Is (.bool a) (.bool b) = some (a == b) := rfl
theorem c_isnB : cmpOp .IsNot (.bool a) (.bool b) = some (!(a == b)) := rfl
theorem c_in : cmpOp .In x y = inOp x y := rfl
theorem c_nin : cmpOp .NotIn x y = (inOp x y).map (!·) := rfl
theorem e_int : eqOp (.int i) (.int j) = some (decide (i = j)) := by
  show some (PyData.eqv (.int i) (.int j)) = _
  simp only [PyData.eqv]
  congr 1
theorem e_bool : eqOp (.bool a) (.bool b) = some (a == b) := by
  show some (PyData.eqv (.bool a) (.bool b)) = _
  cases a <;> cases b <;> rfl
theorem t_bool : truth (.bool b) = some b := rfl
theorem t_int : truth (.int i) = some (decide (i ≠ 0)) := rfl
theorem t_none : truth .none = some false := rfl
theorem i_l0 : idxOp (.list (x :: xs)) (.int 0) = some x := by simp [idxOp, Ev.ixN]
theorem i_l1 : idxOp (.list (x :: y :: xs)) (.int 1) = some y := by
  have h : (1 : Int) < ((x :: y :: xs).length : Int) := by simp; omega
  show (Ev.ixN _ 1).bind _ = _
  unfold Ev.ixN
  rw [if_pos (by decide), if_pos h]
  rfl
theorem i_l2 : idxOp (.list (x :: y :: z :: xs)) (.int 2) = some z := by
  have h : (2 : Int) < ((x :: y :: z :: xs).length : Int) := by simp; omega
  show (Ev.ixN _ 2).bind _ = _
  unfold Ev.ixN
  rw [if_pos (by decide), if_pos h]
  rfl
theorem i_t0 : idxOp (.tuple (x :: xs)) (.int 0) = some x := by simp [idxOp, Ev.ixN]
theorem i_t1 : idxOp (.tuple (x :: y :: xs)) (.int 1) = some y := by
  have h : (1 : Int) < ((x :: y :: xs).length : Int) := by simp; omega
  show (Ev.ixN _ 1).bind _ = _
  unfold Ev.ixN
  rw [if_pos (by decide), if_pos h]
  rfl
theorem i_t2 : idxOp (.tuple (x :: y :: z :: xs)) (.int 2) = some z := by
  have h : (2 : Int) < ((x :: y :: z :: xs).length : Int) := by simp; omega
  show (Ev.ixN _ 2).bind _ = _
  unfold Ev.ixN
  rw [if_pos (by decide), if_pos h]
  rfl
theorem ixN_nat {n : Nat} {k : Nat} (h : k < n) : Ev.ixN n (k : Int) = some k := by
  unfold Ev.ixN
  rw [if_pos (by omega), if_pos (by omega)]
  simp
theorem i_lN {k : Nat} (h : xs[k]? = some x) : idxOp (.list xs) (.int (k : Nat)) = some x := by
  show (Ev.ixN _ _).bind _ = _
  rw [ixN_nat (List.getElem?_eq_some_iff.mp h).1]
  exact h
theorem i_tN {k : Nat} (h : xs[k]? = some x) : idxOp (.tuple xs) (.int (k : Nat)) = some x := by
  show (Ev.ixN _ _).bind _ = _
  rw [ixN_nat (List.getElem?_eq_some_iff.mp h).1]
  exact h
theorem s_l0 : setOp (.list (x :: xs)) (.int 0) v = some (.list (v :: xs)) := by
  show (Ev.ixN _ 0).map _ = _
  unfold Ev.ixN
  rw [if_pos (by decide), if_pos (by rw [List.length_cons]; omega)]
  rfl
theorem s_l1 : setOp (.list (x :: y :: xs)) (.int 1) v = some (.list (x :: v :: xs)) := by
  show (Ev.ixN _ 1).map _ = _
  unfold Ev.ixN
  rw [if_pos (by decide), if_pos (by simp; omega)]
  rfl
theorem s_l2 : setOp (.list (x :: y :: z :: xs)) (.int 2) v = some (.list (x :: y :: v :: xs)) := by
  show (Ev.ixN _ 2).map _ = _
  unfold Ev.ixN
  rw [if_pos (by decide), if_pos (by simp; omega)]
  rfl
theorem b_lenL : bltOp .len [.list xs] = some (.frz (.int xs.length)) := rfl
theorem b_lenT : bltOp .len [.tuple xs] = some (.frz (.int xs.length)) := rfl
theorem b_lenS {ns : List Int} : bltOp .len [scriptV ns] = some (.frz (.int ns.length)) := by simp [bltOp, scriptV]
theorem b_abs : bltOp .abs [.int i] = some (.frz (.int (if i < 0 then -i else i))) := rfl
theorem b_min2 : bltOp .min2 [.int i, .int j] = some (.frz (.int (if j < i then j else i))) := rfl
theorem b_max2 : bltOp .max2 [.int i, .int j] = some (.frz (.int (if j > i then j else i))) := rfl
theorem b_intI : bltOp .int [.int i] = some (.frz (.int i)) := rfl
theorem b_intB : bltOp .int [.bool b] = some (.frz (.int (if b then 1 else 0))) := rfl
theorem b_listL : bltOp .list [.list xs] = some (.own (.list xs)) := rfl
theorem b_listT : bltOp .list [.tuple xs] = some (.own (.list xs)) := rfl
theorem b_tupL : bltOp .tuple [.list xs] = some (.frz (.tuple xs)) := rfl
theorem b_repr : bltOp .repr [.bool b] = some (.frz (.str (if b then "True" else "False"))) := rfl
theorem u_app (h : xs.length < lim) : muOp .append (.list xs) [x] = some (.list (xs ++ [x])) := by show (if _ then _ else _) = _; rw [if_pos h]
theorem u_ext (h : xs.length + ys.length ≤ lim) : muOp .extend (.list xs) [.list ys] = some (.list (xs ++ ys)) := by show (if _ then _ else _) = _; rw [if_pos h]
theorem sc_int : isScript (.int i) = false := rfl
theorem sc_bool : isScript (.bool b) = false := rfl
theorem sc_none : isScript .none = false := rfl
theorem sc_list : isScript (.list xs) = false := rfl
theorem sc_tuple : isScript (.tuple xs) = false := rfl
theorem sc_str {z : Str} : isScript (.str z) = false := rfl
theorem sc_dct0 : isScript (.dict []) = false := rfl
theorem it_valT : items .val [.tuple xs] = some xs := rfl
theorem it_valL : items .val [.list xs] = some xs := rfl
theorem it_enmT : items .enm [.tuple xs] = some (xs.zipIdx.map fun p => .tuple [.int (p.2 : Nat), p.1]) := rfl
theorem it_enmL : items .enm [.list xs] = some (xs.zipIdx.map fun p => .tuple [.int (p.2 : Nat), p.1]) := rfl
theorem it_rng {n : Nat} (h : n ≤ lim) : items .rng [.int (n : Nat)] = some ((List.range n).map fun i => .int (i : Nat)) := by
  show (if -(2 ^ 62) ≤ (n : Int) ∧ (n : Int) ≤ lim then _ else _) = _
  rw [if_pos ⟨by omega, by omega⟩]
  simp
end
theorem ct0 : ([0] : List Nat).contains 0 = true := rfl
theorem ct1 {k : Nat} : ([0] : List Nat).contains (k + 1) = false := by simp
theorem nd1 {i : Nat} : [i].Nodup := by simp
theorem mul_l {i j : Int} (h : i.natAbs < 2 ^ 64) : mulOk i j = true := by simp [mulOk, h]
theorem mul_r {i j : Int} (h : j.natAbs < 2 ^ 64) : mulOk i j = true := by simp [mulOk, h]
theorem big62 : (2 : Int) ^ 62 < 2 ^ 4000 := by decide +kernel
theorem big65647 : (65647 : Int) < 2 ^ 4000 := by decide +kernel
/-- a bag of numbers -/
def Ew (e : PV) : Prop := ∃ a b c : Int, e = .list [.int a, .int b, .int c]
theorem no_stars : (∀ i, isStar (.cint i) = false) ∧ (∀ i, isStar (.cbl i) = false) ∧ isStar .cnon = false ∧ (∀ i, isStar (.cstr i) = false) ∧ (∀ i, isStar (.var i) = false) ∧ (∀ i, isStar (.mv i) = false) ∧ (∀ i, isStar (.peek i) = false) ∧ (∀ i, isStar (.glb i) = false)
    ∧ (∀ i j k, isStar (.bin i j k) = false) ∧ (∀ i, isStar (.neg i) = false) ∧ (∀ i, isStar (.not i) = false) ∧ (∀ i j, isStar (.bop i j) = false) ∧ (∀ i j k, isStar (.cmp i j k) = false) ∧ (∀ i j k l m, isStar (.chain i j k l m) = false) ∧ (∀ i j k, isStar (.ite i j k) = false)
    ∧ (∀ i, isStar (.tup i) = false) ∧ (∀ i, isStar (.lst i) = false) ∧ isStar .dct0 = false ∧ (∀ i j, isStar (.idx i j) = false) ∧ (∀ i j, isStar (.slcL i j) = false) ∧ (∀ i j, isStar (.slcH i j) = false) ∧ (∀ i j k, isStar (.slcLH i j k) = false) ∧ (∀ i j, isStar (.isi i j) = false)
    ∧ (∀ i j, isStar (.blt i j) = false) ∧ (∀ i, isStar (.lrng i) = false) ∧ (∀ i j k, isStar (.mth i j k) = false) ∧ (∀ i j, isStar (.call i j) = false) ∧ (∀ i j k l m o, isStar (.lc i j k l m o) = false) :=
  ⟨fun _ => rfl, fun _ => rfl, rfl, fun _ => rfl, fun _ => rfl, fun _ => rfl, fun _ => rfl, fun _ => rfl, fun _ _ _ => rfl, fun _ => rfl, fun _ => rfl, fun _ _ => rfl, fun _ _ _ => rfl, fun _ _ _ _ _ => rfl, fun _ _ _ => rfl,
    fun _ => rfl, fun _ => rfl, rfl, fun _ _ => rfl, fun _ _ => rfl, fun _ _ => rfl, fun _ _ _ => rfl, fun _ _ => rfl, fun _ _ => rfl, fun _ => rfl, fun _ _ _ => rfl, fun _ _ => rfl, fun _ _ _ _ _ _ => rfl⟩
theorem lims : 0 + 1 ≤ lim ∧ 0 + 1 + 1 ≤ lim ∧ 0 + 1 + 1 + 1 ≤ lim ∧ 0 + 1 + 1 + 1 + 1 ≤ lim ∧ 0 + 1 + 1 + 1 + 1 + 1 ≤ lim ∧ 0 + 1 + 1 + 1 + 1 + 1 + 1 ≤ lim ∧ 0 + 1 + 1 + 1 + 1 + 1 + 1 + 1 ≤ lim ∧ 0 + 1 + 1 + 1 + 1 + 1 + 1 + 1 + 1 ≤ lim ∧ 0 + 1 + 1 + 1 + 1 + 1 + 1 + 1 + 1 + 1 ≤ lim ∧ 0 + 1 + 1 + 1 + 1 + 1 + 1 + 1 + 1 + 1 + 1 ≤ lim ∧ 0 + 1 + 1 + 1 + 1 + 1 + 1 + 1 + 1 + 1 + 1 + 1 ≤ lim ∧ 0 + 1 + 1 + 1 + 1 + 1 + 1 + 1 + 1 + 1 + 1 + 1 + 1 ≤ lim ∧ 0 + 1 + 1 + 1 + 1 + 1 + 1 + 1 + 1 + 1 + 1 + 1 + 1 + 1 ≤ lim ∧ 0 + 1 + 1 + 1 + 1 + 1 + 1 + 1 + 1 + 1 + 1 + 1 + 1 + 1 + 1 ≤ lim ∧ 0 + 1 + 1 + 1 + 1 + 1 + 1 + 1 + 1 + 1 + 1 + 1 + 1 + 1 + 1 + 1 ≤ lim := by decide
end Ev

/-! Ev26: numbers in lists and tuples. -/
namespace Ev
open PySem PySem.Spec
theorem canLay_ints : ∀ ns : List Int, PyData.canLayAll0 (ns.map PyData.int) = true
  | [] => by simp [PyData.canLayAll0]
  | n :: ns => by simp [PyData.canLayAll0, PyData.canLay0, canLay_ints ns]
theorem depth_ints : ∀ ns : List Int, PyData.depthAll (ns.map PyData.int) ≤ 1
  | [] => by simp [PyData.depthAll]
  | n :: ns => by
    have := depth_ints ns
    simp only [List.map_cons, PyData.depthAll, PyData.depth]
    omega
theorem shapedL (ns : List Int) : SeqAt.shaped (.list (ns.map .int)) = true := by
  have := depth_ints ns
  simp only [SeqAt.shaped, PyData.canLay0, canLay_ints, PyData.depth, Bool.true_and]
  exact decide_eq_true (by omega)
theorem shapedT (ns : List Int) : SeqAt.shaped (.tuple (ns.map .int)) = true := by
  have := depth_ints ns
  simp only [SeqAt.shaped, PyData.canLay0, canLay_ints, PyData.depth, Bool.true_and]
  exact decide_eq_true (by omega)
theorem eq_LL (as bs : List Int) : eqOp (.list (as.map .int)) (.list (bs.map .int)) = some (decide (as = bs)) := by
  unfold eqOp
  rw [shapedL, shapedL]
  show some (PyData.eqv _ _) = _
  rw [PyData.eqv, PySem.W.ked_eqvAll]
theorem eq_TT (as bs : List Int) : eqOp (.tuple (as.map .int)) (.tuple (bs.map .int)) = some (decide (as = bs)) := by
  unfold eqOp
  rw [shapedT, shapedT]
  show some (PyData.eqv _ _) = _
  rw [PyData.eqv, PySem.W.ked_eqvAll]
theorem eqv_int (i j : Int) : PyData.eqv (.int i) (.int j) = decide (i = j) := by
  have h := e_int (i := i) (j := j)
  injection h
theorem any_int (k : Int) (ns : List Int) : ((ns.map PyData.int).any fun y => PyData.eqv y (.int k)) = decide (k ∈ ns) := by
  induction ns with
  | nil => rfl
  | cons n ns ih =>
    rw [List.map_cons, List.any_cons, ih, eqv_int]
    by_cases h : n = k
    · subst h; simp
    · have h2 : ¬ k = n := fun z => h z.symm
      simp [h, h2]
theorem flat_ints (ns : List Int) : (ns.map PyData.int).all flat = true := by
  induction ns with
  | nil => rfl
  | cons n ns ih => rw [List.map_cons, List.all_cons, ih]; rfl
theorem in_T (k : Int) (ns : List Int) : inOp (.int k) (.tuple (ns.map .int)) = some (decide (k ∈ ns)) := by
  show (if flat (.int k) && (ns.map PyData.int).all flat then some _ else none) = _
  rw [flat_ints, any_int]
  rfl
theorem le_int (i j : Int) : PySem.W.dataLe false id (PyData.int i) (PyData.int j) = decide (i ≤ j) := by
  show (!PyProof.Rows.lexLt PyProof.Rows.itemOrd (PySem.W.keyToks (.int j)) (PySem.W.keyToks (.int i))) = _
  simp only [PySem.W.keyToks, PyProof.Rows.lexLt, PyProof.Rows.itemOrd, PyProof.Rows.itemLt]
  by_cases h : j < i
  · have h2 : ¬ i ≤ j := by omega
    simp [h, h2]
  · have h2 : i ≤ j := by omega
    by_cases h3 : i < j <;> simp [h, h2, h3]
theorem plains_ints : ∀ ns : List Int, plains (ns.map PyData.int) = true
  | [] => rfl
  | n :: ns => by rw [List.map_cons, plains, plains_ints ns]; rfl
theorem sortable_ints (ns : List Int) : sortable (ns.map PyData.int) = true := by
  unfold sortable
  have h1 : ((ns.map PyData.int).all fun d => (ns.map PyData.int).all fun e => PySem.W.alike d e) = true := by
    simp [List.all_eq_true, PySem.W.alike]
  have h2 : ((ns.map PyData.int).all fun d => match d with | .none => false | .tuple _ => false | _ => true) = true := by
    simp [List.all_eq_true]
  have h3 : ((ns.map PyData.int).all fun d => decide (d.depth ≤ 60)) = true := by
    simp [List.all_eq_true, PyData.depth]
  rw [h1, h3, plains_ints]
  have h2' := h2
  simp only [Bool.and_true, Bool.true_and, Bool.or_eq_true]
  exact .inr h2
theorem sorted_pv (ns : List Int) : (ns.map PyData.int).mergeSort (PySem.W.dataLe false id) = (ns.mergeSort fun a b => decide (a ≤ b)).map PyData.int := by
  rw [List.map_mergeSort]
  intro a _ b _
  rw [le_int]
theorem b_sortT (ns : List Int) : bltOp .sorted [.tuple (ns.map .int)] = some (.own (.list ((ns.mergeSort fun a b => decide (a ≤ b)).map .int))) := by
  show (if sortable (ns.map PyData.int) then _ else _) = _
  rw [if_pos (sortable_ints ns), isort_data, sorted_pv]
theorem b_sortL (ns : List Int) : bltOp .sorted [.list (ns.map .int)] = some (.own (.list ((ns.mergeSort fun a b => decide (a ≤ b)).map .int))) := by
  show (if sortable (ns.map PyData.int) then _ else _) = _
  rw [if_pos (sortable_ints ns), isort_data, sorted_pv]
theorem ints_map (ns : List Int) : ints? (ns.map PyData.int) = some ns := by
  induction ns with
  | nil => rfl
  | cons n ns ih => rw [List.map_cons, ints?, ih]; rfl
theorem bools_map (bs : List Bool) : bools? (bs.map PyData.bool) = some bs := by
  induction bs with
  | nil => rfl
  | cons n ns ih => rw [List.map_cons, bools?, ih]; rfl
theorem b_sum (ns : List Int) : bltOp .sum [.list (ns.map .int)] = some (.frz (.int ns.sum)) := by
  show (ints? _).map _ = _
  rw [ints_map]; rfl
theorem b_all (bs : List Bool) : bltOp .all [.list (bs.map .bool)] = some (.frz (.bool (bs.all id))) := by
  show (bools? _).map _ = _
  rw [bools_map]; rfl
theorem b_any (bs : List Bool) : bltOp .any [.list (bs.map .bool)] = some (.frz (.bool (bs.any id))) := by
  show (bools? _).map _ = _
  rw [bools_map]; rfl
theorem b_mn (ns : List Int) {m : Int} (h : ns.min? = some m) : bltOp .mn [.list (ns.map .int)] = some (.frz (.int m)) := by
  show (match ints? (ns.map PyData.int) with | some ns => ns.min?.map fun m => Rv.frz (.int m) | none => _) = _
  rw [ints_map]
  show (ns.min?).map _ = _
  rw [h]; rfl
theorem b_mx (ns : List Int) {m : Int} (h : ns.max? = some m) : bltOp .mx [.list (ns.map .int)] = some (.frz (.int m)) := by
  show (match ints? (ns.map PyData.int) with | some ns => ns.max?.map fun m => Rv.frz (.int m) | none => _) = _
  rw [ints_map]
  show (ns.max?).map _ = _
  rw [h]; rfl
theorem m_count (ns : List Int) (k : Int) : mthOp .count (.list (ns.map .int)) [.int k] = some (.frz (.int (ns.count k : Nat))) := by
  show (ints? _).map _ = _
  rw [ints_map]; rfl
theorem m_index (ns : List Int) (k : Int) {j : Nat} (h : ns.findIdx? (fun z => decide (z = k)) = some j) : mthOp .index (.list (ns.map .int)) [.int k] = some (.frz (.int (j : Nat))) := by
  show (if SeqAt.shaped (.list (ns.map PyData.int)) && SeqAt.shaped (.int k) then _ else _) = _
  rw [shapedL, if_pos (by rfl)]
  have e : ((ns.map PyData.int).findIdx? fun z => PyData.eqv z (.int k)) = ns.findIdx? fun z => decide (z = k) := by
    rw [List.findIdx?_map]
    have : ((fun z => PyData.eqv z (.int k)) ∘ PyData.int) = fun z => decide (z = k) := funext fun z => eqv_int z k
    rw [this]
  rw [e, h]
  rfl
theorem rng_ints {m : Int} {n : Nat} (hm : m = n) (h : n ≤ lim) : items .rng [.int m] = some (((List.range n).map fun i : Nat => (i : Int)).map .int) := by
  rw [hm, it_rng h, List.map_map]
  rfl
/-- a loop that keeps a word -/
theorem for_inv {step : PV → M Flow} (P : Nat → Env → Prop) : ∀ {xs : List PV} {i : Nat} {s : Env}, P i s → (∀ k x, xs[k]? = some x → ∀ s, P (i + k) s → ∃ s', step x s = .ok .next s' ∧ P (i + k + 1) s') → ∃ s', forLoop step xs s = .ok .next s' ∧ P (i + xs.length) s'
  | [], i, s, h, _ => ⟨s, rfl, h⟩
  | x :: xs, i, s, h, H => by
    obtain ⟨s1, h1, h2⟩ := H 0 x rfl s h
    obtain ⟨s2, h3, h4⟩ := for_inv P (xs := xs) (i := i + 1) (s := s1) h2 fun k y hy s hs => by
      have := H (k + 1) y (by simpa using hy) s (by rw [show i + (k + 1) = i + 1 + k by omega]; exact hs)
      rw [show i + (k + 1) + 1 = i + 1 + k + 1 by omega] at this
      exact this
    refine ⟨s2, ?_, by rw [List.length_cons, show i + (xs.length + 1) = i + 1 + xs.length by omega]; exact h4⟩
    exact (show (step x s).andThen _ = _ by rw [h1]; exact h3)
end Ev

/-! EvM: how calls that may raise are told, by rewriting. -/
namespace Ev
open PySem PySem.Spec L2
theorem xi_phi {p : Prg} {f : Nat} {args : List PV} {k : Nat} {v : PV} : ∀ {n : Nat}, p.Ξ n f args = some (k, v) → p.Φ n f args = none
  | 0, h => by cases h
  | n + 1, h => by
    rw [Prg.Ξ_succ] at h
    rw [Prg.Φ_succ]
    cases hd : p.defs[f]? with
    | none => rfl
    | some d =>
      rw [hd] at h
      have h : runX (p.cf n) d args = some (k, v) := h
      show runDef (p.cf n) d args = none
      unfold runX at h
      unfold runDef
      split at h
      · rename_i hc
        rw [if_pos hc]
        cases e : evSs (p.cf n) d.body (d.start args) with
        | ok a s => rw [e] at h; cases h
        | exc j w => rfl
        | stuck => rfl
      · cases h
section
variable {c : Cf} {s : Ev.Env} {i : Nat}
theorem x_met {m : Nat} {d : MetD} {f : Nat} {es : List E} : ev c (.met m d f es) s = thn (evs c es s) fun rs s1 => thn (fzs rs s1) fun vs => metM d (callX c f vs) := rfl
theorem x_metv {m : Nat} {d : MetD} {es : List E} : ev c (.metv m d i es) s = thn (lookFn i s) fun f s0 => thn (evs c es s0) fun rs s1 => thn (fzs rs s1) fun vs => metM d (callX c f vs) := rfl
theorem x_reprD {e : E} : ev c (.reprD e) s = thn (ev c e s) fun r s1 => thn (opd r s1) fun v => M.opt (reprOp v) := rfl
theorem x_callG {f : Nat} {es : List E} : ev c (.callG f es) s = thn (evs c es s) fun rs => callFn c f rs := rfl
theorem q_lookFn {f : Nat} (h : s[i]? = some (.fn f)) : lookFn i s = .ok f s := by unfold lookFn; rw [h]
theorem q_storeFn {f : Nat} {y : Slot} (h : s[i]? = some y) (hy : isIo y = false) : storeFn i f s = .ok () (s.set i (.fn f)) := by
  unfold storeFn; rw [h]; cases y <;> first | rfl | cases hy
theorem met_exc {p : Prg} {n f k : Nat} {vs : List PV} {v w : PV} {d : MetD} {s : Ev.Env} (h : p.Ξ n f vs = some (k, v)) (hl : p.lent f = []) (hr : d.res k v = some w) : metM d (callX (p.cf n) f vs) s = .ok (.frz w) s := by
  have e : callX (p.cf n) f vs s = .exc k v := by
    show (if p.lent f = [] then _ else _ : RE Rv) = _
    rw [if_pos hl, show (p.cf n).Φ f vs = none from xi_phi h]
    dsimp only
    rw [show (p.cf n).Ξ f vs = some (k, v) from h]
  unfold metM
  rw [e]
  dsimp only
  rw [hr]
theorem x_sLoopF {fs : List Nat} {body : List Stm} : evS c (.loopF i fs body) s = fnLoop (turnF c i body) fs s := rfl
theorem x_turnF {f : Nat} {body : List Stm} : turnF c i body f s = thn (storeFn i f s) fun _ => evSs c body := rfl
theorem x_fn0 {step : Nat → M Ev.Flow} : fnLoop step [] s = .ok .next s := rfl
theorem x_fnN {step : Nat → M Ev.Flow} {f : Nat} {fs : List Nat} {s1 : Ev.Env} (h : step f s = .ok .next s1) : fnLoop step (f :: fs) s = fnLoop step fs s1 := by
  show (step f s).andThen _ = _
  rw [h]
  rfl
end
end Ev

/-! EvE: the end of a law: no repr runs around it, its lambdas' tables are empty. -/
namespace Ev
open PySem PySem.Spec PyProof.Rows L2
section
variable {P : Program} {w : World} {K : Frag} {mg mb : Str → Option Value} {b : Bool} {k : Nat} {fa a : Addr} {cs : List (Addr × Addr)} {fd : FuncData} {x : Str} {sp : Sp} {s : Shared} {vs : List Value} {ns : List Int}
/-- what is tracked at a law's start: the tables, and the script where it is not written -/
noncomputable def h0 (K : Frag) (cs : List (Addr × Addr)) (a : Addr) (vs : List Value) (ns : List Int) : Hp := open Classical in fun q =>
  if q ∈ cs.map (·.2) then some (.tbl #[]) else if q = a ∧ K.lookup a = none then some (.frz { cls := .type "list", data := .seq vs.toArray } (.lst (ns.map V.int))) else none
abbrev tabO : Obj := { cls := .none, data := .fields #[] }
theorem law_run (KX : K.In s.heap) (hmg : s.heap.Ns mainGlobals mg) (hmb : s.heap.Ns builtinsNs mb) (hbb : ∀ y : Str, y ≠ "__name__" → mb y = bootBuiltins y) (nl : s.heap.NoLimit) (ng : s.gens = #[])
    (hT : ∀ q ∈ cs, s.heap.get? q.2 = some tabO) (nT : ∀ q ∈ cs, K.lookup q.2 = none) (hC : ∀ q ∈ cs, PySem.W.CodeHd s.heap q.1 q.2)
    (bmain : ∃ (bm : Addr) (ob : Obj), mg "__builtins__" = some (.ref bm) ∧ bm ≠ builtinsNs ∧ s.heap.get? bm = some ob ∧ ob.cls = .type "module" ∧ ob.dict = some builtinsNs ∧ ob.data = .plain)
    (ha : s.heap.get? a = some { cls := .type "list", data := .seq vs.toArray }) (hi : IntsAre vs ns) (hl : ns.length ≤ sizeLine) (hr : Room k callerA)
    (hF : ∀ base : Heap, K.In base → base.Ns mainGlobals mg → (∀ q ∈ cs, LamX.TabB base mg q.1 q.2) → FnD P w K mg base (CX P w) b k fa fd [x] sp) (hbind : ∀ (t : Shared) (u : Value), BindsTo t fd ⟨[u], []⟩ [(x, u)])
    (hsp : ∀ H : Hp, (∀ q ∈ cs, H q.2 = some (.tbl #[])) → SqL K H a (ns.map V.int) → sp [.ref a] H (fun v _ => v = .bl true) fun _ _ _ => False) :
    codeAny (model P w) callerA (.call (.ref fa) ⟨[.ref a], []⟩) (fun r t => r = .ok (.ret (.bool true)) ∧ OldK s.heap t.heap ∧ t.os = s.os ∧ AllBare t.gens) s := by
  have tabAt : ∀ {q : Addr}, q ∈ cs.map (·.2) → s.heap.get? q = some tabO := fun {q} h => by
    obtain ⟨c, hc, rfl⟩ := List.mem_map.mp h
    exact hT c hc
  have aNo : a ∉ cs.map (·.2) := fun h => by
    have := tabAt h
    rw [ha] at this
    cases this
  have hTab : ∀ q ∈ cs, h0 K cs a vs ns q.2 = some (.tbl #[]) := fun q hq => if_pos (List.mem_map.mpr ⟨q, hq, rfl⟩)
  -- what may stand in h0
  have kinds : ∀ {q : Addr} {o : HO}, h0 K cs a vs ns q = some o → (q ∈ cs.map (·.2) ∧ o = .tbl #[]) ∨ (q = a ∧ K.lookup a = none ∧ o = .frz { cls := .type "list", data := .seq vs.toArray } (.lst (ns.map V.int))) := fun {q o} h => by
    unfold h0 at h
    split at h
    · rename_i m; cases h; exact .inl ⟨m, rfl⟩
    · split at h
      · rename_i m; cases h; exact .inr ⟨m.1, m.2, rfl⟩
      · cases h
  have free : ∀ {q : Addr} {o : Obj}, s.heap.get? q = some o → o ≠ tabO → o ≠ { cls := .type "list", data := .seq vs.toArray } → h0 K cs a vs ns q = none := fun {q o} e n1 n2 => by
    cases hq : h0 K cs a vs ns q with
    | none => rfl
    | some u =>
      rcases kinds hq with ⟨m, _⟩ | ⟨rfl, _, _⟩
      · rw [tabAt m] at e; exact (n1 (Option.some.inj e).symm).elim
      · rw [ha] at e; exact (n2 (Option.some.inj e).symm).elim
  have inB : ∀ {q : Addr} {o : Obj}, s.heap.get? q = some o → o ≠ tabO → o ≠ { cls := .type "list", data := .seq vs.toArray } → (hidT s.heap (h0 K cs a vs ns)).get? q = some o := fun {q o} e n1 n2 => hidT_get e (free e n1 n2)
  have dictB : ∀ {q : Addr} {m : Str → Option Value}, s.heap.Ns q m → (hidT s.heap (h0 K cs a vs ns)).Ns q m := fun {q m} ⟨o, es, ep, e, hd, r⟩ =>
    ⟨o, es, ep, inB e (fun z => by rw [z] at hd; cases hd) (fun z => by rw [z] at hd; cases hd), hd, r⟩
  have kB : K.In (hidT s.heap (h0 K cs a vs ns)) := fun q o e => hidT_get (KX q o e) (by
    cases hq : h0 K cs a vs ns q with
    | none => rfl
    | some u =>
      rcases kinds hq with ⟨m, _⟩ | ⟨rfl, hk, _⟩
      · obtain ⟨c, hc, rfl⟩ := List.mem_map.mp m
        rw [nT c hc] at e; cases e
      · rw [hk] at e; cases e)
  have modB : L2.Mod K mg (hidT s.heap (h0 K cs a vs ns)) := ⟨kB, dictB hmg, ⟨mb, dictB hmb, hbb⟩, by obtain ⟨mc, z1, z2⟩ := nl; exact ⟨mc, dictB z1, z2⟩⟩
  have tabB : ∀ q ∈ cs, LamX.TabB (hidT s.heap (h0 K cs a vs ns)) mg q.1 q.2 := fun q hq => by
    refine ⟨?_, ?_, fun z => ?_⟩
    · obtain ⟨o, us, file, tf, flags, tg, inF, text, tt, e1, r1, r2, r3, rest⟩ := hC q hq
      refine ⟨o, us, file, tf, flags, tg, inF, text, tt, inB e1 (fun z => ?_) (fun z => ?_), r1, r2, r3, rest⟩
      · rw [z] at r2; cases r2; simp at r3
      · rw [z] at r2; cases r2
    · obtain ⟨bm, ob, b1, b2, b3, b4, b5, b6⟩ := bmain
      refine ⟨bm, ob, b1, b2, fun z => ?_, fun z => ?_, inB b3 (fun z => by rw [z] at b6; cases b6) (fun z => by rw [z] at b6; cases b6), b4, b5, b6⟩
      · obtain ⟨o, es, ep, e, hd, _⟩ := hmg
        rw [z, e] at b3; cases b3
        rw [hd] at b6; cases b6
      · rw [z, hT q hq] at b3; cases b3; cases b6
    · obtain ⟨o, es, ep, e, hd, _⟩ := hmg
      rw [z, hT q hq] at e; cases e; cases hd
  have lenV : vs.length ≤ sizeLine := by rw [hi.length]; exact hl
  have rv := vals_ints hi
  have scr : SqL K (h0 K cs a vs ns) a (ns.map V.int) := by
    cases hk : K.lookup a with
    | none => exact .inl (.inr ⟨{ cls := .type "list", data := .seq vs.toArray }, (if_neg aNo).trans (if_pos ⟨rfl, hk⟩)⟩)
    | some o =>
      have e := KX a o hk
      rw [ha] at e
      cases e
      exact .inr ⟨_, vs.toArray, _, hk, rfl, rfl, rfl, by simpa using lenV, by simpa using rv⟩
  have hok : HOk P w (h0 K cs a vs ns) s.heap := fun q u e => by
    rcases kinds e with ⟨m, rfl⟩ | ⟨rfl, hk, rfl⟩
    · exact tabAt m
    · exact ⟨ha, by rw [List.length_map]; exact hl, vs, _, rv, ha⟩
  have env0 : Env0 P w K mg (hidT s.heap (h0 K cs a vs ns)) callerA [] s (h0 K cs a vs ns) := ⟨rfl, modB, fun q o e => of_hidT e, Nat.le_of_eq (hidT_size _ _), trivial, (fun q hq => by cases hq), hok, .of_eq ng⟩
  refine codeAny_mono ((hF _ kB (dictB hmg) tabB).run callerA [] s _ ⟨[.ref a], []⟩ [.ref a] [.ref a] _ _ (fun _ => rfl) hr env0 (hbind s (.ref a)) (.cons rfl .nil) (hsp _ hTab scr)) fun r t ht => ?_
  have old : ∀ {u : Value} {H' : Hp}, Un (frs []) [] (h0 K cs a vs ns) H' s.heap t.heap → HOk P w H' t.heap → OldK s.heap t.heap := fun {u H'} un ok' => by
    have grown : ∀ q ∈ cs, ∃ more : Array Value, t.heap.get? q.2 = some { cls := .none, data := .fields more } := fun q hq => by
      obtain ⟨more, z⟩ := un.tbls q.2 #[] (hTab q hq)
      exact ⟨_, ok' q.2 _ z⟩
    have same : ∀ q o, q ∉ cs.map (·.2) → s.heap.get? q = some o → t.heap.get? q = some o := fun q o nq e => by
      cases hq : h0 K cs a vs ns q with
      | none => exact un.keep q o e hq (by intro z; exact absurd (show q ∈ ([] : List Addr) from z) (by simp)) (by simp)
      | some u =>
        rcases kinds hq with ⟨m, _⟩ | ⟨rfl, hk, rfl⟩
        · exact (nq m).elim
        · obtain ⟨e1, _⟩ := hok _ _ hq
          obtain ⟨e2, _⟩ := ok' _ _ (un.frzs _ _ _ hq)
          rw [e] at e1; cases e1
          exact e2
    refine ⟨fun q o e => ?_, fun q o e => ?_⟩ <;> by_cases hq : q ∈ cs.map (·.2)
    · obtain ⟨c, hc, rfl⟩ := List.mem_map.mp hq
      obtain ⟨more, hm⟩ := grown c hc
      rw [hT c hc] at e; cases e
      exact .inr (.inl ⟨((hC c hc).tab (hT c hc)).isCodeTable, rfl, #[], more, rfl, by rw [Array.empty_append]; exact hm⟩)
    · exact .inl (same q o hq e)
    · obtain ⟨c, hc, rfl⟩ := List.mem_map.mp hq
      obtain ⟨more, hm⟩ := grown c hc
      exact ⟨_, hm⟩
    · exact ⟨o, same q o hq e⟩
  cases r with
  | error e =>
    obtain ⟨_, _, _, _, _, _, _, _, _, _, _, _, hh⟩ := ht
    exact hh.elim
  | ok fl =>
    cases fl with
    | next => exact False.elim ht
    | brk => exact False.elim ht
    | cont => exact False.elim ht
    | ret u =>
      obtain ⟨v, H', os, bare, un, ok', r', q⟩ := ht
      have q : v = .bl true := q
      subst q
      obtain rfl : u = Value.bool true := r'
      exact ⟨rfl, old (u := .none) un ok', os, bare⟩
/-- what a law's text gives at the head's heap h -/
def LawG (l : PySem.W.OpenLaw) (w : World) (K : Frag) (k : Nat) (x : Str) (mg : Str → Option Value) (fa : Addr) (h : Heap) : Prop :=
  ∃ (fd : FuncData) (b : Bool) (cs : List (Addr × Addr)) (sp : Sp), (∀ q ∈ cs, h.get? q.2 = some tabO ∧ K.lookup q.2 = none ∧ PySem.W.CodeHd h q.1 q.2) ∧ (∀ (t : Shared) (u : Value), BindsTo t fd ⟨[u], []⟩ [(x, u)]) ∧
    (∀ (H : Hp) (a : Addr) (ns : List Int), ns.length ≤ 63 → (∀ q ∈ cs, H q.2 = some (.tbl #[])) → SqL K H a (ns.map V.int) → sp [.ref a] H (fun v _ => v = .bl true) fun _ _ _ => False) ∧
    ∀ base : Heap, K.In base → base.Ns mainGlobals mg → (∀ q ∈ cs, LamX.TabB base mg q.1 q.2) → FnD l.prog w K mg base (CX l.prog w) b k fa fd [x] sp
theorem walk_gd {l : PySem.W.OpenLaw} {k : Nat} {q : Program} {loose : List Str} {XP : (Str → Option Value) → Heap → Prop} {YP : World → Heap → Prop} {d : DefRec} {K : Params → Frag} {x : Str} (hn : l.most = some 63) (hdf : d.params.defaults = []) (hr : Room k callerA) (hY : ∀ (w : World) (h : Heap), YP w h → (K w.params).In h)
    (hF : ∀ (w : World) (mg : Str → Option Value) (fa : Addr) (h : Heap), YP w h → (K w.params).In h → h.Ns mainGlobals mg → mg d.name = some (.ref fa) → LawG l w (K w.params) k x mg fa h) : PySem.W.WalkO q loose XP YP l.row.toRowW d [] (fun f vs => PySem.call f vs) := by
  refine Att.attach_callB hn hdf fun w t₀ t₁ mg mb fa o pm cd doc a vs ns G Y ho hd hcd hmg hobj hints hlen hbits hg => ?_
  have kX := hY w _ Y
  obtain ⟨fd, b, cs, sp, h1, h2, h3, h4⟩ := hF w mg fa _ Y kX G.T.g hmg
  exact law_run kX G.T.g G.T.b G.T.builtins G.T.nolimit hg (fun q hq => (h1 q hq).1) (fun q hq => (h1 q hq).2.1) (fun q hq => (h1 q hq).2.2) G.T.bmain hobj hints (Nat.le_trans hlen (by decide)) hr h4 h2 fun H hH hS => h3 H a ns hlen hH hS
end
end Ev
namespace Ev
open PySem PySem.Spec L2
/-- where a code object's table stands -/
def tabOfCode (K : Frag) (c : Addr) : Addr := match K.lookup c with
  | some ⟨_, _, .fields vs, _⟩ => (match (vs[11]? : Option Value) with | some (.ref P) => P | _ => 0)
  | _ => 0
end Ev

/-! EvK: values told apart, for evaluation by the kernel. -/
namespace Ev
open PySem
mutual
def sameP : PV → PV → Bool
  | .none, .none => true
  | .bool a, .bool b => a == b
  | .int a, .int b => decide (a = b)
  | .str a, .str b => decide (a = b)
  | .list xs, .list ys => sameL xs ys
  | .tuple xs, .tuple ys => sameL xs ys
  | .dict ks, .dict ls => sameK ks ls
  | _, _ => false
def sameL : List PV → List PV → Bool
  | [], [] => true
  | x :: xs, y :: ys => sameP x y && sameL xs ys
  | _, _ => false
def sameK : List (PV × PV) → List (PV × PV) → Bool
  | [], [] => true
  | (a, b) :: xs, (a', b') :: ys => sameP a a' && sameP b b' && sameK xs ys
  | _, _ => false
end
mutual
theorem sameP_eq : ∀ (a b : PV), sameP a b = true → a = b
  | .none, b, h => by cases b <;> first | rfl | (simp [sameP] at h)
  | .bool a, b, h => by cases b <;> first | (simp [sameP] at h; done) | (simp only [sameP, beq_iff_eq] at h; rw [h])
  | .int a, b, h => by cases b <;> first | (simp [sameP] at h; done) | (simp only [sameP, decide_eq_true_eq] at h; rw [h])
  | .str a, b, h => by cases b <;> first | (simp [sameP] at h; done) | (simp only [sameP, decide_eq_true_eq] at h; rw [h])
  | .list xs, b, h => by cases b <;> first | (simp [sameP] at h; done) | (simp only [sameP] at h; rw [sameL_eq _ _ h])
  | .tuple xs, b, h => by cases b <;> first | (simp [sameP] at h; done) | (simp only [sameP] at h; rw [sameL_eq _ _ h])
  | .dict ks, b, h => by cases b <;> first | (simp [sameP] at h; done) | (simp only [sameP] at h; rw [sameK_eq _ _ h])
theorem sameL_eq : ∀ (a b : List PV), sameL a b = true → a = b
  | [], b, h => by cases b <;> first | rfl | (simp [sameL] at h)
  | x :: xs, b, h => by
    cases b with
    | nil => simp [sameL] at h
    | cons y ys =>
      simp only [sameL, Bool.and_eq_true] at h
      rw [sameP_eq _ _ h.1, sameL_eq _ _ h.2]
theorem sameK_eq : ∀ (a b : List (PV × PV)), sameK a b = true → a = b
  | [], b, h => by cases b <;> first | rfl | (simp [sameK] at h)
  | (x, x') :: xs, b, h => by
    cases b with
    | nil => simp [sameK] at h
    | cons y ys =>
      obtain ⟨y, y'⟩ := y
      simp only [sameK, Bool.and_eq_true] at h
      rw [sameP_eq _ _ h.1.1, sameP_eq _ _ h.1.2, sameK_eq _ _ h.2]
end
/-- Ξ tells just this -/
def isX (o : Option (Nat × PV)) (k : Nat) (v : PV) : Bool := match o with
  | some (j, w) => decide (j = k) && sameP w v
  | none => false
theorem isX_eq {o : Option (Nat × PV)} {k : Nat} {v : PV} (h : isX o k v = true) : o = some (k, v) := by
  unfold isX at h
  split at h
  · simp only [Bool.and_eq_true, decide_eq_true_eq] at h
    rw [h.1, sameP_eq _ _ h.2]
  · cases h
/-- Φ tells just this, nothing lent -/
def isV (o : Option (Rv × List PV)) (v : PV) : Bool := match o with
  | some (.frz w, []) => sameP w v
  | _ => false
theorem isV_eq {o : Option (Rv × List PV)} {v : PV} (h : isV o v = true) : o = some (.frz v, []) := by
  unfold isV at h
  split at h
  · rw [sameP_eq _ _ h]
  · cases h
end Ev

/-! EvS: values that hang on draws, as trees; run by the kernel. -/
namespace Ev
open PySem
inductive DD where
  | leaf (v : PV) | node (i : Nat) (ts : List DD)
mutual
def DD.at (ρ : List Nat) : DD → Option PV
  | .leaf v => some v
  | .node i ts => match ρ[i]? with
    | some k => atk ρ ts k
    | none => none
def atk (ρ : List Nat) : List DD → Nat → Option PV
  | [], _ => none
  | t :: _, 0 => t.at ρ
  | _ :: ts, k + 1 => atk ρ ts k
end
theorem atk_eq (ρ : List Nat) : ∀ (ts : List DD) (k : Nat), atk ρ ts k = (ts[k]?).bind (DD.at ρ)
  | [], k => by rw [atk]; rfl
  | t :: _, 0 => by rw [atk]; rfl
  | _ :: ts, k + 1 => by rw [atk, atk_eq ρ ts k]; rfl
theorem at_node {ρ : List Nat} {i k : Nat} {ts : List DD} (h : ρ[i]? = some k) : (DD.node i ts).at ρ = (ts[k]?).bind (DD.at ρ) := by rw [DD.at, h, ← atk_eq]
mutual
theorem at_more (ρ x : List Nat) : ∀ (t : DD) (v : PV), t.at ρ = some v → t.at (ρ ++ x) = some v
  | .leaf _, v, h => by rw [DD.at] at h ⊢; exact h
  | .node i ts, v, h => by
    rw [DD.at] at h ⊢
    cases e : ρ[i]? with
    | none => rw [e] at h; cases h
    | some k =>
      rw [e] at h
      have hi : i < ρ.length := by
        rw [List.getElem?_eq_some_iff] at e
        exact e.1
      rw [List.getElem?_append_left hi, e]
      exact atk_more ρ x ts k v h
theorem atk_more (ρ x : List Nat) : ∀ (ts : List DD) (k : Nat) (v : PV), atk ρ ts k = some v → atk (ρ ++ x) ts k = some v
  | [], _, v, h => by rw [atk] at h; cases h
  | t :: _, 0, v, h => by rw [atk] at h ⊢; exact at_more ρ x t v h
  | _ :: ts, k + 1, v, h => by rw [atk] at h ⊢; exact atk_more ρ x ts k v h
end
mutual
def sameD : DD → DD → Bool
  | .leaf a, .leaf b => sameP a b
  | .node i ts, .node j us => decide (i = j) && sameDs ts us
  | _, _ => false
def sameDs : List DD → List DD → Bool
  | [], [] => true
  | t :: ts, u :: us => sameD t u && sameDs ts us
  | _, _ => false
end
mutual
theorem sameD_eq : ∀ (t u : DD), sameD t u = true → t = u
  | .leaf a, u, h => by
    cases u with
    | leaf b => rw [sameD] at h; rw [sameP_eq _ _ h]
    | node _ _ => simp [sameD] at h
  | .node i ts, u, h => by
    cases u with
    | leaf b => simp [sameD] at h
    | node j us => rw [sameD, Bool.and_eq_true, decide_eq_true_eq] at h; rw [h.1, sameDs_eq _ _ h.2]
theorem sameDs_eq : ∀ (ts us : List DD), sameDs ts us = true → ts = us
  | [], us, h => by cases us <;> first | rfl | (simp [sameDs] at h)
  | t :: ts, us, h => by
    cases us with
    | nil => simp [sameDs] at h
    | cons u us => rw [sameDs, Bool.and_eq_true] at h; rw [sameD_eq _ _ h.1, sameDs_eq _ _ h.2]
end
mutual
/-- every leaf -/
def allL (p : PV → Bool) : DD → Bool
  | .leaf v => p v
  | .node _ ts => allLs p ts
def allLs (p : PV → Bool) : List DD → Bool
  | [] => true
  | t :: ts => allL p t && allLs p ts
end
mutual
theorem allL_at {p : PV → Bool} {ρ : List Nat} : ∀ (t : DD) (v : PV), allL p t = true → t.at ρ = some v → p v = true
  | .leaf a, v, h, e => by rw [allL] at h; rw [DD.at] at e; cases e; exact h
  | .node i ts, v, h, e => by
    rw [allL] at h
    rw [DD.at] at e
    cases hk : ρ[i]? with
    | none => rw [hk] at e; cases e
    | some k => rw [hk] at e; exact allLs_at ts k v h e
theorem allLs_at {p : PV → Bool} {ρ : List Nat} : ∀ (ts : List DD) (k : Nat) (v : PV), allLs p ts = true → atk ρ ts k = some v → p v = true
  | [], _, v, h, e => by rw [atk] at e; cases e
  | t :: _, 0, v, h, e => by rw [allLs, Bool.and_eq_true] at h; rw [atk] at e; exact allL_at t v h.1 e
  | _ :: ts, k + 1, v, h, e => by rw [allLs, Bool.and_eq_true] at h; rw [atk] at e; exact allLs_at ts k v h.2 e
end
def Ats (ρ : List Nat) : List DD → List PV → Prop
  | [], [] => True
  | t :: ts, v :: vs => t.at ρ = some v ∧ Ats ρ ts vs
  | _, _ => False
theorem Ats.more {ρ : List Nat} (x : List Nat) : ∀ {ts : List DD} {vs : List PV}, Ats ρ ts vs → Ats (ρ ++ x) ts vs
  | [], [], _ => trivial
  | _ :: _, _ :: _, h => ⟨at_more _ _ _ _ h.1, Ats.more x h.2⟩
  | [], _ :: _, h => h.elim
  | _ :: _, [], h => h.elim
theorem Ats.len {ρ : List Nat} : ∀ {ts : List DD} {vs : List PV}, Ats ρ ts vs → ts.length = vs.length
  | [], [], _ => rfl
  | _ :: _, _ :: _, h => by rw [List.length_cons, List.length_cons, Ats.len h.2]
  | [], _ :: _, h => h.elim
  | _ :: _, [], h => h.elim
theorem Ats.app {ρ : List Nat} : ∀ {ts us : List DD} {vs ws : List PV}, Ats ρ ts vs → Ats ρ us ws → Ats ρ (ts ++ us) (vs ++ ws)
  | [], _, [], _, _, h => h
  | _ :: _, _, _ :: _, _, h, g => ⟨h.1, Ats.app h.2 g⟩
  | [], _, _ :: _, _, h, _ => h.elim
  | _ :: _, _, [], _, h, _ => h.elim
theorem Ats.get {ρ : List Nat} : ∀ {ts : List DD} {vs : List PV} {k : Nat} {t : DD}, Ats ρ ts vs → ts[k]? = some t → ∃ v, vs[k]? = some v ∧ t.at ρ = some v
  | [], _, k, t, h, e => by simp at e
  | _ :: _, [], _, _, h, _ => h.elim
  | _ :: ts, v :: vs, 0, t, h, e => by simp at e; exact ⟨v, rfl, e ▸ h.1⟩
  | _ :: ts, v :: vs, k + 1, t, h, e => by
    rw [List.getElem?_cons_succ] at e
    obtain ⟨w, h1, h2⟩ := Ats.get h.2 e
    exact ⟨w, by rw [List.getElem?_cons_succ]; exact h1, h2⟩
theorem Ats.rep {ρ : List Nat} {ts : List DD} {vs : List PV} (h : Ats ρ ts vs) : ∀ n : Nat, Ats ρ (List.replicate n ts).flatten (List.replicate n vs).flatten
  | 0 => trivial
  | n + 1 => by
    rw [List.replicate_succ, List.replicate_succ, List.flatten_cons, List.flatten_cons]
    exact h.app (h.rep n)
theorem Ats.uniq {ρ : List Nat} : ∀ {ts : List DD} {vs ws : List PV}, Ats ρ ts vs → Ats ρ ts ws → vs = ws
  | [], [], [], _, _ => rfl
  | t :: ts, v :: vs, w :: ws, h, g => by
    have := h.1.symm.trans g.1
    rw [Option.some.inj this, Ats.uniq h.2 g.2]
  | [], _ :: _, _, h, _ => h.elim
  | [], [], _ :: _, _, h => h.elim
  | _ :: _, [], _, h, _ => h.elim
  | _ :: _, _ :: _, [], _, h => h.elim
/-- under the draw i as k -/
def rst (i k : Nat) : DD → DD
  | .node j ts => if j = i then (match ts[k]? with | some t => t | none => .node j ts) else .node j ts
  | t => t
theorem rst_at {ρ : List Nat} {i k : Nat} (hk : ρ[i]? = some k) {t : DD} {v : PV} (h : t.at ρ = some v) : (rst i k t).at ρ = some v := by
  cases t with
  | leaf _ => exact h
  | node j ts =>
    unfold rst
    dsimp only
    split
    · rename_i e; subst e
      rw [at_node hk] at h
      cases e : ts[k]? with
      | none => rw [e] at h; cases h
      | some u => rw [e] at h; exact h
    · exact h
theorem rst_ats {ρ : List Nat} {i k : Nat} (hk : ρ[i]? = some k) : ∀ {ts : List DD} {vs : List PV}, Ats ρ ts vs → Ats ρ (ts.map (rst i k)) vs
  | [], [], _ => trivial
  | _ :: _, _ :: _, h => ⟨rst_at hk h.1, rst_ats hk h.2⟩
  | [], _ :: _, h => h.elim
  | _ :: _, [], h => h.elim
def DD.lf : DD → Option PV
  | .leaf v => some v
  | .node _ _ => none
def leaves : List DD → Option (List PV)
  | [] => some []
  | t :: ts => match t.lf with
    | some v => (leaves ts).map (v :: ·)
    | none => none
theorem leaves_at {ρ : List Nat} : ∀ {ts : List DD} {vs ws : List PV}, leaves ts = some ws → Ats ρ ts vs → vs = ws
  | [], [], _, h, _ => by cases h; rfl
  | .leaf v :: ts, w :: ws, xs, h, g => by
    rw [leaves] at h
    simp only [DD.lf] at h
    cases e : leaves ts with
    | none => rw [e] at h; cases h
    | some us =>
      rw [e] at h
      cases h
      have g1 := g.1
      rw [DD.at] at g1
      cases g1
      rw [leaves_at e g.2]
  | .node _ _ :: _, _ :: _, _, h, _ => by rw [leaves] at h; simp only [DD.lf] at h; cases h
  | [], _ :: _, _, _, h => h.elim
  | _ :: _, [], _, _, h => h.elim
def optAll {α : Type} : List (Option α) → Option (List α)
  | [] => some []
  | some a :: r => (optAll r).map (a :: ·)
  | none :: _ => none
theorem optAll_get {α : Type} : ∀ {os : List (Option α)} {as : List α} {k : Nat} {o : Option α}, optAll os = some as → os[k]? = some o → ∃ a, o = some a ∧ as[k]? = some a
  | [], _, k, o, _, e => by simp at e
  | none :: _, _, _, _, h, _ => by rw [optAll] at h; cases h
  | some a :: r, as, k, o, h, e => by
    rw [optAll] at h
    cases hr : optAll r with
    | none => rw [hr] at h; cases h
    | some bs =>
      rw [hr] at h
      cases h
      cases k with
      | zero => simp at e; exact ⟨a, e.symm, rfl⟩
      | succ k =>
        rw [List.getElem?_cons_succ] at e
        obtain ⟨b, h1, h2⟩ := optAll_get hr e
        exact ⟨b, h1, by rw [List.getElem?_cons_succ]; exact h2⟩
def mkN (i : Nat) : List DD → Option DD
  | [] => none
  | t :: r => some (if r.all (sameD t) then t else .node i (t :: r))
theorem mkN_at {ρ : List Nat} {i k : Nat} (hk : ρ[i]? = some k) {ts : List DD} {u w : DD} {v : PV} (h : ts[k]? = some u) (hv : u.at ρ = some v) (hm : mkN i ts = some w) : w.at ρ = some v := by
  cases ts with
  | nil => simp at h
  | cons t r =>
    unfold mkN at hm
    cases hm
    split
    · rename_i ha
      cases k with
      | zero => simp at h; rw [h]; exact hv
      | succ k =>
        rw [List.getElem?_cons_succ] at h
        have := List.all_eq_true.mp ha u (List.mem_of_getElem? h)
        rw [sameD_eq _ _ this]; exact hv
    · rw [at_node hk, h]; exact hv
def mapN (f : List PV → Option PV) : List Nat → Nat → List DD → Option DD
  | [], _, ts => (leaves ts).bind fun vs => (f vs).map .leaf
  | n :: ds, i, ts => match leaves ts with
    | some vs => (f vs).map .leaf
    | none => if ts.any (fun t => match t with | .node j _ => decide (j = i) | _ => false) then
        (optAll ((List.range n).map fun k => mapN f ds (i + 1) (ts.map (rst i k)))).bind (mkN i)
      else mapN f ds (i + 1) ts
theorem mapN_ok {f : List PV → Option PV} {ρ : List Nat} {vs : List PV} : ∀ {ds : List Nat} {i : Nat} {ts : List DD} {w : DD}, (∀ (j n : Nat), ds[j]? = some n → ∃ k : Nat, ρ[i + j]? = some k ∧ k < n) → Ats ρ ts vs → mapN f ds i ts = some w → ∃ v, f vs = some v ∧ w.at ρ = some v
  | [], i, ts, w, _, h, e => by
    rw [mapN] at e
    cases hl : leaves ts with
    | none => rw [hl] at e; cases e
    | some us =>
      rw [hl] at e
      have := leaves_at hl h
      subst this
      cases hf : f vs with
      | none => rw [Option.bind_some, hf] at e; cases e
      | some v => rw [Option.bind_some, hf] at e; cases e; exact ⟨v, rfl, by rw [DD.at]⟩
  | n :: ds, i, ts, w, hd, h, e => by
    rw [mapN] at e
    split at e
    · rename_i us hl
      have := leaves_at hl h
      subst this
      cases hf : f vs with
      | none => rw [hf] at e; cases e
      | some v => rw [hf] at e; cases e; exact ⟨v, rfl, by rw [DD.at]⟩
    · obtain ⟨k, hk, kn⟩ := hd 0 n rfl
      rw [Nat.add_zero] at hk
      have hd2 : ∀ j m, ds[j]? = some m → ∃ k, ρ[i + 1 + j]? = some k ∧ k < m := fun j m hj => by
        have := hd (j + 1) m (by rw [List.getElem?_cons_succ]; exact hj)
        rw [show i + (j + 1) = i + 1 + j by omega] at this
        exact this
      split at e
      · cases ho : optAll ((List.range n).map fun k => mapN f ds (i + 1) (ts.map (rst i k))) with
        | none => rw [ho] at e; cases e
        | some us =>
          rw [ho, Option.bind_some] at e
          have hg : ((List.range n).map fun k => mapN f ds (i + 1) (ts.map (rst i k)))[k]? = some (mapN f ds (i + 1) (ts.map (rst i k))) := by
            rw [List.getElem?_map, List.getElem?_range kn]; rfl
          obtain ⟨u, h1, h2⟩ := optAll_get ho hg
          obtain ⟨v, h3, h4⟩ := mapN_ok hd2 (rst_ats hk h) h1
          exact ⟨v, h3, mkN_at hk h2 h4 e⟩
      · exact mapN_ok hd2 h e
/-! ### symbolic values, names, states -/
inductive SV where
  | dd (t : DD) | sq (b : Bool) (ts : List DD) | rp (ts : List DD)
def mkq : Bool → List PV → PV
  | true, xs => .tuple xs
  | false, xs => .list xs
def Den (ρ : List Nat) : SV → PV → Prop
  | .dd t, v => t.at ρ = some v
  | .sq b ts, v => ∃ vs, v = mkq b vs ∧ Ats ρ ts vs
  | .rp ts, v => ∃ vs, v = .str (PyData.list vs).shown ∧ Ats ρ ts vs
theorem Den.more {ρ : List Nat} (x : List Nat) {t : SV} {v : PV} (h : Den ρ t v) : Den (ρ ++ x) t v := by
  cases t with
  | dd t => exact at_more _ _ _ _ h
  | sq b ts => obtain ⟨vs, h1, h2⟩ := h; exact ⟨vs, h1, h2.more x⟩
  | rp ts => obtain ⟨vs, h1, h2⟩ := h; exact ⟨vs, h1, h2.more x⟩
inductive SRv where
  | frz (v : SV) | own (v : SV) | slot (i : Nat)
def DenR (ρ : List Nat) : SRv → Rv → Prop
  | .frz t, .frz v => Den ρ t v
  | .own t, .own v => Den ρ t v
  | .slot i, .slot j => i = j
  | _, _ => False
theorem DenR.more {ρ : List Nat} (x : List Nat) {t : SRv} {v : Rv} (h : DenR ρ t v) : DenR (ρ ++ x) t v := by
  cases t <;> cases v <;> first | exact h.elim | exact Den.more x h | exact h
inductive SSlot where
  | emp | frz (v : SV) | own (v : SV) | crk | fn (f : Nat) | any
def Ew3 (e : PV) : Prop := ∃ a b c : Int, e = .list [.int a, .int b, .int c]
def DenS (ρ : List Nat) : SSlot → Slot → Prop
  | .emp, .emp => True
  | .frz t, .frz v => Den ρ t v
  | .own t, .own v => Den ρ t v
  | .crk, .io e => Ew3 e
  | .fn f, .fn g => f = g
  | .any, .emp => True
  | .any, .frz _ => True
  | .any, .own _ => True
  | .any, .fn _ => True
  | _, _ => False
theorem DenS.more {ρ : List Nat} (x : List Nat) {t : SSlot} {v : Slot} (h : DenS ρ t v) : DenS (ρ ++ x) t v := by
  cases t <;> cases v <;> first | exact h.elim | exact Den.more x h | exact h | trivial
structure SSt where
  ds : List Nat
  env : List SSlot
def EnvD (ρ : List Nat) : List SSlot → Env → Prop
  | [], [] => True
  | x :: xs, y :: ys => DenS ρ x y ∧ EnvD ρ xs ys
  | _, _ => False
theorem EnvD.more {ρ : List Nat} (x : List Nat) : ∀ {xs : List SSlot} {ys : Env}, EnvD ρ xs ys → EnvD (ρ ++ x) xs ys
  | [], [], _ => trivial
  | _ :: _, _ :: _, h => ⟨h.1.more x, EnvD.more x h.2⟩
  | [], _ :: _, h => h.elim
  | _ :: _, [], h => h.elim
theorem EnvD.get {ρ : List Nat} : ∀ {xs : List SSlot} {ys : Env} {i : Nat} {x : SSlot}, EnvD ρ xs ys → xs[i]? = some x → ∃ y, ys[i]? = some y ∧ DenS ρ x y
  | [], _, i, x, _, e => by simp at e
  | _ :: _, [], _, _, h, _ => h.elim
  | _ :: xs, y :: ys, 0, x, h, e => by simp at e; exact ⟨y, rfl, e ▸ h.1⟩
  | _ :: xs, y :: ys, i + 1, x, h, e => by
    rw [List.getElem?_cons_succ] at e
    obtain ⟨z, h1, h2⟩ := EnvD.get h.2 e
    exact ⟨z, by rw [List.getElem?_cons_succ]; exact h1, h2⟩
theorem EnvD.set {ρ : List Nat} : ∀ {xs : List SSlot} {ys : Env} {i : Nat} {x : SSlot} {y : Slot}, EnvD ρ xs ys → DenS ρ x y → EnvD ρ (xs.set i x) (ys.set i y)
  | [], [], i, x, y, _, e => trivial
  | _ :: _, [], _, _, _, h, _ => h.elim
  | [], _ :: _, _, _, _, h, _ => h.elim
  | _ :: xs, _ :: ys, 0, x, y, h, e => ⟨e, h.2⟩
  | _ :: xs, _ :: ys, i + 1, x, y, h, e => ⟨h.1, EnvD.set h.2 e⟩
theorem EnvD.none {ρ : List Nat} : ∀ {xs : List SSlot} {ys : Env} {i : Nat}, EnvD ρ xs ys → xs[i]? = none → ys[i]? = none
  | [], [], i, _, e => rfl
  | _ :: _, [], _, h, _ => h.elim
  | [], _ :: _, _, h, _ => h.elim
  | _ :: xs, _ :: ys, 0, h, e => by simp at e
  | _ :: xs, _ :: ys, i + 1, h, e => by
    rw [List.getElem?_cons_succ] at e ⊢
    exact EnvD.none h.2 e
def Vl (ds ρ : List Nat) : Prop := ∀ (j n : Nat), ds[j]? = some n → ∃ k : Nat, ρ[j]? = some k ∧ k < n
/-- ρ has just as many draws -/
def St (ρ : List Nat) (σ : SSt) (s : Env) : Prop := ρ.length = σ.ds.length ∧ Vl σ.ds ρ ∧ EnvD ρ σ.env s
abbrev SM (α : Type) := SSt → Option (α × SSt)
def SM.bind {α β : Type} (m : SM α) (f : α → SM β) : SM β := fun σ => match m σ with
  | some (a, σ') => f a σ'
  | none => none
def SM.pure {α : Type} (a : α) : SM α := fun σ => some (a, σ)
instance : Monad SM where
  pure := SM.pure
  bind := SM.bind
def SM.fail {α : Type} : SM α := fun _ => none
/-- what hangs on the state alone -/
def sop {β : Type} (g : SSt → Option β) : SM β := fun σ => (g σ).map (·, σ)
def Ok {α β : Type} (ρ : List Nat) (s : Env) (σ : SSt) (m : M α) (sm : SM β) (R : List Nat → β → α → Prop) : Prop :=
  ∀ b σ', sm σ = some (b, σ') → ∃ ext a s', St (ρ ++ ext) σ' s' ∧ m s = .ok a s' ∧ R (ρ ++ ext) b a
section
variable {α β γ δ : Type} {ρ : List Nat} {s : Env} {σ : SSt}
theorem Ok.bind {m : M α} {sm : SM β} {R : List Nat → β → α → Prop} {f : α → M γ} {g : β → SM δ} {R' : List Nat → δ → γ → Prop} (h : Ok ρ s σ m sm R)
    (k : ∀ ext b a s' σ', St (ρ ++ ext) σ' s' → R (ρ ++ ext) b a → Ok (ρ ++ ext) s' σ' (f a) (g b) R') : Ok ρ s σ (m >>= f) (sm >>= g) R' := by
  intro d σ2 e
  change SM.bind sm g σ = _ at e
  unfold SM.bind at e
  cases hm : sm σ with
  | none => rw [hm] at e; cases e
  | some p =>
    obtain ⟨b, σ1⟩ := p
    rw [hm] at e
    obtain ⟨x, a, s1, h1, h2, h3⟩ := h b σ1 hm
    obtain ⟨y, c, s2, k1, k2, k3⟩ := k x b a s1 σ1 h1 h3 d σ2 e
    refine ⟨x ++ y, c, s2, by rw [← List.append_assoc]; exact k1, ?_, by rw [← List.append_assoc]; exact k3⟩
    rw [bind_def, h2, andThen_ok, k2]
theorem Ok.pure {R : List Nat → β → α → Prop} {a : α} {b : β} (hs : St ρ σ s) (h : R ρ b a) : Ok ρ s σ (Pure.pure a) (Pure.pure b) R := by
  intro c σ1 e
  change SM.pure b σ = _ at e
  cases e
  exact ⟨[], a, s, by rw [List.append_nil]; exact hs, rfl, by rw [List.append_nil]; exact h⟩
theorem Ok.now {R : List Nat → β → α → Prop} {m : M α} {g : SSt → Option β} (hs : St ρ σ s) (h : ∀ b, g σ = some b → ∃ a, m s = .ok a s ∧ R ρ b a) : Ok ρ s σ m (sop g) R := by
  intro c σ1 e
  unfold sop at e
  cases hg : g σ with
  | none => rw [hg] at e; cases e
  | some b =>
    rw [hg] at e
    cases e
    obtain ⟨a, h1, h2⟩ := h _ hg
    exact ⟨[], a, s, by rw [List.append_nil]; exact hs, h1, by rw [List.append_nil]; exact h2⟩
theorem Ok.fail {R : List Nat → β → α → Prop} {m : M α} : Ok ρ s σ m SM.fail R := fun _ _ e => by cases e
/-- one step of names -/
theorem Ok.step {R : List Nat → β → α → Prop} {m : M α} {sm : SM β} (h : ∀ b σ', sm σ = some (b, σ') → ∃ a s', St ρ σ' s' ∧ m s = .ok a s' ∧ R ρ b a) : Ok ρ s σ m sm R := by
  intro b σ1 e
  obtain ⟨a, s', h1, h2, h3⟩ := h b σ1 e
  exact ⟨[], a, s', by rw [List.append_nil]; exact h1, h2, by rw [List.append_nil]; exact h3⟩
theorem Ok.weak {R R' : List Nat → β → α → Prop} {m : M α} {sm : SM β} (h : Ok ρ s σ m sm R) (hR : ∀ x b a, R (ρ ++ x) b a → R' (ρ ++ x) b a) : Ok ρ s σ m sm R' := by
  intro b σ1 e
  obtain ⟨x, a, s', h1, h2, h3⟩ := h b σ1 e
  exact ⟨x, a, s', h1, h2, hR _ _ _ h3⟩
end
/-! ### pieces -/
def toD (ds : List Nat) : SV → Option DD
  | .dd t => some t
  | .sq b ts => mapN (fun vs => some (mkq b vs)) ds 0 ts
  | .rp _ => none
theorem St.vl {ρ : List Nat} {σ : SSt} {s : Env} (h : St ρ σ s) : ∀ (j n : Nat), σ.ds[j]? = some n → ∃ k : Nat, ρ[0 + j]? = some k ∧ k < n := fun j n e => by
  rw [Nat.zero_add]; exact h.2.1 j n e
theorem toD_ok {ρ : List Nat} {σ : SSt} {s : Env} (hs : St ρ σ s) {x : SV} {t : DD} {v : PV} (h : Den ρ x v) (e : toD σ.ds x = some t) : t.at ρ = some v := by
  cases x with
  | dd u => cases e; exact h
  | sq b ts =>
    obtain ⟨vs, rfl, h2⟩ := h
    obtain ⟨w, h3, h4⟩ := mapN_ok hs.vl h2 e
    cases h3
    exact h4
  | rp ts => cases e
def DenL (ρ : List Nat) : List SV → List PV → Prop
  | [], [] => True
  | x :: xs, v :: vs => Den ρ x v ∧ DenL ρ xs vs
  | _, _ => False
theorem DenL.more {ρ : List Nat} (x : List Nat) : ∀ {xs : List SV} {ys : List PV}, DenL ρ xs ys → DenL (ρ ++ x) xs ys
  | [], [], _ => trivial
  | _ :: _, _ :: _, h => ⟨h.1.more x, DenL.more x h.2⟩
  | [], _ :: _, h => h.elim
  | _ :: _, [], h => h.elim
def DenRs (ρ : List Nat) : List SRv → List Rv → Prop
  | [], [] => True
  | x :: xs, v :: vs => DenR ρ x v ∧ DenRs ρ xs vs
  | _, _ => False
def toDs (ds : List Nat) : List SV → Option (List DD)
  | [] => some []
  | x :: xs => match toD ds x, toDs ds xs with
    | some t, some ts => some (t :: ts)
    | _, _ => none
theorem toDs_ok {ρ : List Nat} {σ : SSt} {s : Env} (hs : St ρ σ s) : ∀ {xs : List SV} {ts : List DD} {vs : List PV}, DenL ρ xs vs → toDs σ.ds xs = some ts → Ats ρ ts vs
  | [], ts, [], _, e => by cases e; trivial
  | [], _, _ :: _, h, _ => h.elim
  | _ :: _, _, [], h, _ => h.elim
  | x :: xs, ts, v :: vs, h, e => by
    rw [toDs] at e
    cases h1 : toD σ.ds x with
    | none => rw [h1] at e; cases e
    | some t =>
      cases h2 : toDs σ.ds xs with
      | none => rw [h1, h2] at e; cases e
      | some us =>
        rw [h1, h2] at e
        cases e
        exact ⟨toD_ok hs h.1 h1, toDs_ok hs h.2 h2⟩
/-- an operator, place by place -/
def pw (g : List PV → Option Rv) (ds : List Nat) (xs : List SV) : Option SRv := (toDs ds xs).bind fun ts =>
  match mapN (fun vs => match g vs with | some (.frz v) => some v | _ => none) ds 0 ts with
  | some t => some (.frz (.dd t))
  | none => (mapN (fun vs => match g vs with | some (.own v) => some v | _ => none) ds 0 ts).map fun t => .own (.dd t)
theorem pw_ok {g : List PV → Option Rv} {ρ : List Nat} {σ : SSt} {s : Env} (hs : St ρ σ s) {xs : List SV} {vs : List PV} {r : SRv} (h : DenL ρ xs vs) (e : pw g σ.ds xs = some r) : ∃ a, g vs = some a ∧ DenR ρ r a := by
  unfold pw at e
  cases ht : toDs σ.ds xs with
  | none => rw [ht] at e; cases e
  | some ts =>
    rw [ht, Option.bind_some] at e
    have ha := toDs_ok hs h ht
    split at e
    · rename_i t h1
      cases e
      obtain ⟨v, h2, h3⟩ := mapN_ok hs.vl ha h1
      split at h2
      · rename_i w hw; cases h2; exact ⟨_, hw, h3⟩
      · cases h2
    · cases h1 : mapN (fun vs => match g vs with | some (.own v) => some v | _ => none) σ.ds 0 ts with
      | none => rw [h1] at e; cases e
      | some t =>
        rw [h1] at e
        cases e
        obtain ⟨v, h2, h3⟩ := mapN_ok hs.vl ha h1
        split at h2
        · rename_i w hw; cases h2; exact ⟨_, hw, h3⟩
        · cases h2
def pwv (g : List PV → Option PV) (ds : List Nat) (xs : List SV) : Option SV := (toDs ds xs).bind fun ts => (mapN g ds 0 ts).map .dd
theorem pwv_ok {g : List PV → Option PV} {ρ : List Nat} {σ : SSt} {s : Env} (hs : St ρ σ s) {xs : List SV} {vs : List PV} {r : SV} (h : DenL ρ xs vs) (e : pwv g σ.ds xs = some r) : ∃ a, g vs = some a ∧ Den ρ r a := by
  unfold pwv at e
  cases ht : toDs σ.ds xs with
  | none => rw [ht] at e; cases e
  | some ts =>
    rw [ht, Option.bind_some] at e
    have ha := toDs_ok hs h ht
    cases h1 : mapN g σ.ds 0 ts with
    | none => rw [h1] at e; cases e
    | some t =>
      rw [h1] at e
      cases e
      exact mapN_ok hs.vl ha h1
end Ev

/-! EvS2: the evaluator over trees. -/
namespace Ev
open PySem
section
variable {ρ : List Nat} {s : Env} {σ : SSt} {c : Cf} {pk : Nat}
/-! ### names -/
def isIoS : Slot → Bool
  | .io _ => true
  | _ => false
def sVar (i : Nat) : SM SRv := fun σ => match σ.env[i]? with
  | some (.frz v) => some (.frz v, σ)
  | some (.own v) => some (.frz v, ⟨σ.ds, σ.env.set i (.frz v)⟩)
  | _ => none
def sMv (i : Nat) : SM SRv := fun σ => match σ.env[i]? with
  | some (.frz v) => some (.frz v, σ)
  | some (.own v) => some (.own v, ⟨σ.ds, σ.env.set i .emp⟩)
  | _ => none
def sPeek (i : Nat) : SM SRv := fun σ => match σ.env[i]? with
  | some (.frz v) => some (.frz v, σ)
  | some (.own _) => some (.slot i, σ)
  | some .crk => some (.slot i, σ)
  | _ => none
def slook (i : Nat) : SSt → Option SV := fun σ => match σ.env[i]? with
  | some (.frz v) => some v
  | some (.own v) => some v
  | _ => none
def sopd : SRv → SSt → Option SV
  | .frz v => fun _ => some v
  | .own v => fun _ => some v
  | .slot i => slook i
def sfz : SRv → Option SV
  | .frz v => some v
  | .own v => some v
  | .slot _ => none
def sfzs : List SRv → Option (List SV)
  | [] => some []
  | r :: rs => match sfz r, sfzs rs with
    | some v, some vs => some (v :: vs)
    | _, _ => none
def sopds : List SRv → SSt → Option (List SV)
  | [] => fun _ => some []
  | r :: rs => fun σ => match sopd r σ, sopds rs σ with
    | some v, some vs => some (v :: vs)
    | _, _ => none
def sstore (i : Nat) (r : SRv) : SM Unit := fun σ => match σ.env[i]?, r with
  | some .crk, _ => none
  | none, _ => none
  | some _, .frz v => some ((), ⟨σ.ds, σ.env.set i (.frz v)⟩)
  | some _, .own v => some ((), ⟨σ.ds, σ.env.set i (.own v)⟩)
  | some _, .slot _ => none
theorem St.set {i : Nat} {x : SSlot} {y : Slot} (hs : St ρ σ s) (h : DenS ρ x y) : St ρ ⟨σ.ds, σ.env.set i x⟩ (s.set i y) := ⟨hs.1, hs.2.1, hs.2.2.set h⟩
theorem sVar_ok {i : Nat} (hs : St ρ σ s) : Ok ρ s σ (mVar i) (sVar i) DenR := by
  refine Ok.step fun b σ' e => ?_
  unfold sVar at e
  unfold mVar
  split at e
  · rename_i v h
    obtain ⟨y, h1, h2⟩ := hs.2.2.get h
    cases e
    cases y <;> first | exact h2.elim | skip
    rw [h1]
    exact ⟨_, _, hs, rfl, h2⟩
  · rename_i v h
    obtain ⟨y, h1, h2⟩ := hs.2.2.get h
    cases e
    cases y <;> first | exact h2.elim | skip
    rw [h1]
    exact ⟨_, _, hs.set (x := .frz _) (y := .frz _) h2, rfl, h2⟩
  · cases e
theorem sMv_ok {i : Nat} (hs : St ρ σ s) : Ok ρ s σ (mMv i) (sMv i) DenR := by
  refine Ok.step fun b σ' e => ?_
  unfold sMv at e
  unfold mMv
  split at e
  · rename_i v h
    obtain ⟨y, h1, h2⟩ := hs.2.2.get h
    cases e
    cases y <;> first | exact h2.elim | skip
    rw [h1]
    exact ⟨_, _, hs, rfl, h2⟩
  · rename_i v h
    obtain ⟨y, h1, h2⟩ := hs.2.2.get h
    cases e
    cases y <;> first | exact h2.elim | skip
    rw [h1]
    exact ⟨_, _, hs.set (y := .emp) trivial, rfl, h2⟩
  · cases e
theorem sPeek_ok {i : Nat} (hs : St ρ σ s) : Ok ρ s σ (mPeek i) (sPeek i) DenR := by
  refine Ok.step fun b σ' e => ?_
  unfold sPeek at e
  unfold mPeek
  split at e
  · rename_i v h
    obtain ⟨y, h1, h2⟩ := hs.2.2.get h
    cases e
    cases y <;> first | exact h2.elim | skip
    rw [h1]
    exact ⟨_, _, hs, rfl, h2⟩
  · rename_i v h
    obtain ⟨y, h1, h2⟩ := hs.2.2.get h
    cases e
    cases y <;> first | exact h2.elim | skip
    rw [h1]
    exact ⟨_, _, hs, rfl, rfl⟩
  · rename_i h
    obtain ⟨y, h1, h2⟩ := hs.2.2.get h
    cases e
    cases y <;> first | exact h2.elim | skip
    rw [h1]
    exact ⟨_, _, hs, rfl, rfl⟩
  · cases e
theorem sopd_now {x : SRv} {r : Rv} {t : SV} (hs : St ρ σ s) (h : DenR ρ x r) (e : sopd x σ = some t) : ∃ v, opd r s = .ok v s ∧ Den ρ t v := by
  cases x with
  | frz u => cases r <;> first | exact h.elim | skip
             cases e; exact ⟨_, rfl, h⟩
  | own u => cases r <;> first | exact h.elim | skip
             cases e; exact ⟨_, rfl, h⟩
  | slot i =>
    cases r <;> first | exact h.elim | skip
    have h : i = _ := h
    subst h
    change slook i σ = _ at e
    unfold slook at e
    split at e
    · rename_i v hg
      obtain ⟨y, h1, h2⟩ := hs.2.2.get hg
      cases e
      cases y <;> first | exact h2.elim | skip
      refine ⟨_, ?_, h2⟩
      show look i s = _
      unfold look
      rw [h1]; rfl
    · rename_i v hg
      obtain ⟨y, h1, h2⟩ := hs.2.2.get hg
      cases e
      cases y <;> first | exact h2.elim | skip
      refine ⟨_, ?_, h2⟩
      show look i s = _
      unfold look
      rw [h1]; rfl
    · cases e
theorem sfz_now {x : SRv} {r : Rv} {t : SV} (h : DenR ρ x r) (e : sfz x = some t) : ∃ v, (∀ s, fz r s = .ok v s) ∧ Den ρ t v := by
  cases x with
  | frz u => cases r <;> first | exact h.elim | skip
             cases e; exact ⟨_, fun _ => rfl, h⟩
  | own u => cases r <;> first | exact h.elim | skip
             cases e; exact ⟨_, fun _ => rfl, h⟩
  | slot i => cases e
theorem sfzs_now : ∀ {xs : List SRv} {rs : List Rv} {ts : List SV}, DenRs ρ xs rs → sfzs xs = some ts → ∃ vs, (∀ s, fzs rs s = .ok vs s) ∧ DenL ρ ts vs
  | [], [], ts, _, e => by cases e; exact ⟨[], fun _ => rfl, trivial⟩
  | [], _ :: _, _, h, _ => h.elim
  | _ :: _, [], _, h, _ => h.elim
  | x :: xs, r :: rs, ts, h, e => by
    rw [sfzs] at e
    cases h1 : sfz x with
    | none => rw [h1] at e; cases e
    | some t =>
      cases h2 : sfzs xs with
      | none => rw [h1, h2] at e; cases e
      | some us =>
        rw [h1, h2] at e
        cases e
        obtain ⟨v, g1, g2⟩ := sfz_now h.1 h1
        obtain ⟨vs, g3, g4⟩ := sfzs_now h.2 h2
        refine ⟨v :: vs, fun s => ?_, g2, g4⟩
        show (do let v ← fz r; let vs ← fzs rs; Pure.pure (v :: vs) : M (List PV)) s = _
        rw [bind_def, g1, andThen_ok, bind_def, g3, andThen_ok]; rfl
theorem sopds_now : ∀ {xs : List SRv} {rs : List Rv} {ts : List SV}, St ρ σ s → DenRs ρ xs rs → sopds xs σ = some ts → ∃ vs, opds rs s = .ok vs s ∧ DenL ρ ts vs
  | [], [], ts, _, _, e => by cases e; exact ⟨[], rfl, trivial⟩
  | [], _ :: _, _, _, h, _ => h.elim
  | _ :: _, [], _, _, h, _ => h.elim
  | x :: xs, r :: rs, ts, hs, h, e => by
    rw [sopds] at e
    dsimp only at e
    cases h1 : sopd x σ with
    | none => rw [h1] at e; cases e
    | some t =>
      cases h2 : sopds xs σ with
      | none => rw [h1, h2] at e; cases e
      | some us =>
        rw [h1, h2] at e
        cases e
        obtain ⟨v, g1, g2⟩ := sopd_now hs h.1 h1
        obtain ⟨vs, g3, g4⟩ := sopds_now hs h.2 h2
        refine ⟨v :: vs, ?_, g2, g4⟩
        show (do let v ← opd r; let vs ← opds rs; Pure.pure (v :: vs) : M (List PV)) s = _
        rw [bind_def, g1, andThen_ok, bind_def, g3, andThen_ok]; rfl
theorem sopd_ok {x : SRv} {r : Rv} (hs : St ρ σ s) (h : DenR ρ x r) : Ok ρ s σ (opd r) (sop (sopd x)) Den := Ok.now hs fun _ e => sopd_now hs h e
theorem sfz_ok {x : SRv} {r : Rv} (hs : St ρ σ s) (h : DenR ρ x r) : Ok ρ s σ (fz r) (sop fun _ => sfz x) Den := Ok.now hs fun _ e => by
  obtain ⟨v, h1, h2⟩ := sfz_now h e
  exact ⟨v, h1 s, h2⟩
theorem sfzs_ok {x : List SRv} {r : List Rv} (hs : St ρ σ s) (h : DenRs ρ x r) : Ok ρ s σ (fzs r) (sop fun _ => sfzs x) DenL := Ok.now hs fun _ e => by
  obtain ⟨v, h1, h2⟩ := sfzs_now h e
  exact ⟨v, h1 s, h2⟩
theorem sopds_ok {x : List SRv} {r : List Rv} (hs : St ρ σ s) (h : DenRs ρ x r) : Ok ρ s σ (opds r) (sop (sopds x)) DenL := Ok.now hs fun _ e => sopds_now hs h e
theorem sstore_ok {i : Nat} {x : SRv} {r : Rv} (hs : St ρ σ s) (h : DenR ρ x r) : Ok ρ s σ (store i r) (sstore i x) (fun _ _ _ => True) := by
  refine Ok.step fun b σ' e => ?_
  unfold sstore at e
  have key : ∀ {x y}, σ.env[i]? = some x → (x = .crk → False) → s[i]? = some y → DenS ρ x y → isIoS y = false := fun {x y} h1 h2 h3 h4 => by
    cases y with
    | io e => cases x <;> first | exact h4.elim | exact (h2 rfl).elim
    | _ => rfl
  split at e
  · cases e
  · cases e
  · rename_i y v _ hc hg
    obtain ⟨z, h1, h2⟩ := hs.2.2.get hg
    cases e
    cases r <;> first | exact h.elim | skip
    have hz := key hg hc h1 h2
    refine ⟨(), _, hs.set (x := .frz _) (y := .frz _) h, ?_, trivial⟩
    unfold store
    rw [h1]
    cases z <;> first | rfl | cases hz
  · rename_i y v _ hc hg
    obtain ⟨z, h1, h2⟩ := hs.2.2.get hg
    cases e
    cases r <;> first | exact h.elim | skip
    have hz := key hg hc h1 h2
    refine ⟨(), _, hs.set (x := .own _) (y := .own _) h, ?_, trivial⟩
    unfold store
    rw [h1]
    cases z <;> first | rfl | cases hz
  · cases e
/-! ### operators -/
def sbin (op : Operator) (ds : List Nat) (u v : SV) : Option SRv := match op, u, v with
  | .Add, .sq false xs, .sq false ys => if xs.length + ys.length ≤ lim then some (.own (.sq false (xs ++ ys))) else none
  | .Add, .sq true xs, .sq true ys => if xs.length + ys.length ≤ lim then some (.frz (.sq true (xs ++ ys))) else none
  | .Mult, .sq false xs, .dd (.leaf (.int k)) => if -1000 ≤ k ∧ k ≤ 1000 ∧ xs.length ≤ 1000 then some (.own (.sq false (List.replicate k.toNat xs).flatten)) else none
  | op, u, v => pw (fun vs => match vs with | [a, b] => binOp op a b | _ => none) ds [u, v]
theorem sbin_ok {op : Operator} {u v : SV} {a b : PV} {r : SRv} (hs : St ρ σ s) (hu : Den ρ u a) (hv : Den ρ v b) (e : sbin op σ.ds u v = some r) : ∃ x, binOp op a b = some x ∧ DenR ρ r x := by
  unfold sbin at e
  split at e
  · split at e
    · rename_i xs ys hl
      cases e
      obtain ⟨vs, rfl, h1⟩ := hu
      obtain ⟨ws, rfl, h2⟩ := hv
      rw [h1.len, h2.len] at hl
      exact ⟨_, if_pos hl, _, rfl, h1.app h2⟩
    · cases e
  · split at e
    · rename_i xs ys hl
      cases e
      obtain ⟨vs, rfl, h1⟩ := hu
      obtain ⟨ws, rfl, h2⟩ := hv
      rw [h1.len, h2.len] at hl
      exact ⟨_, if_pos hl, _, rfl, h1.app h2⟩
    · cases e
  · split at e
    · rename_i xs k hl
      cases e
      obtain ⟨vs, rfl, h1⟩ := hu
      have hv : (DD.leaf (.int k)).at ρ = some b := hv
      rw [DD.at] at hv
      cases hv
      rw [h1.len] at hl
      exact ⟨_, if_pos hl, _, rfl, h1.rep _⟩
    · cases e
  · obtain ⟨x, h1, h2⟩ := pw_ok hs (vs := [a, b]) (show DenL ρ [u, v] [a, b] from ⟨hu, hv, trivial⟩) e
    exact ⟨x, h1, h2⟩
/-- a list's items are the same and plain -/
def eqLeaf (d : PV) : Bool := d.canLay0 && decide (d.depth ≤ 60)
def rpLeaf (d : PV) : Bool := plain d && PyData.showable d && decide (d.depth ≤ 50) && decide (d.shown.length ≤ 10000) && PyData.strOk d.shown
def scmp (op : CmpOp) (ds : List Nat) (u v : SV) : Option SV := match op, u, v with
  | .NotEq, .sq false xs, .sq false ys => if sameDs xs ys && xs.all (allL eqLeaf) then some (.dd (.leaf (.bool false))) else none
  | .NotEq, .rp xs, .rp ys => if sameDs xs ys && xs.all (allL rpLeaf) then some (.dd (.leaf (.bool false))) else none
  | op, u, v => pwv (fun vs => match vs with | [a, b] => (cmpOp op a b).map .bool | _ => none) ds [u, v]
theorem Ats.all {p : PV → Bool} : ∀ {ts : List DD} {vs : List PV}, Ats ρ ts vs → ts.all (allL p) = true → ∀ v ∈ vs, p v = true
  | [], [], _, _, v, h => by cases h
  | [], _ :: _, h, _, _, _ => h.elim
  | _ :: _, [], h, _, _, _ => h.elim
  | t :: ts, v :: vs, h, e, w, hw => by
    rw [List.all_cons, Bool.and_eq_true] at e
    rcases List.mem_cons.mp hw with rfl | hw
    · exact allL_at t _ e.1 h.1
    · exact Ats.all h.2 e.2 w hw
theorem canLayAll0_all : ∀ {vs : List PV}, (∀ v ∈ vs, eqLeaf v = true) → PyData.canLayAll0 vs = true ∧ PyData.depthAll vs ≤ 60
  | [], _ => ⟨by simp [PyData.canLayAll0], by simp [PyData.depthAll]⟩
  | v :: vs, h => by
    obtain ⟨h1, h2⟩ := canLayAll0_all fun w hw => h w (List.mem_cons_of_mem _ hw)
    have h3 := h v (by simp)
    unfold eqLeaf at h3
    rw [Bool.and_eq_true, decide_eq_true_eq] at h3
    refine ⟨by rw [PyData.canLayAll0, h3.1, h1]; rfl, ?_⟩
    rw [PyData.depthAll]
    omega
theorem textFrom_strOk : ∀ (ts : List Str) (k : Nat) (acc : Str), PyData.strOk acc = true → (∀ t ∈ ts, PyData.strOk t = true) → PyData.strOk (textFrom k acc ts) = true := by
  have app : ∀ {a b : Str}, PyData.strOk a = true → PyData.strOk b = true → PyData.strOk (a ++ b) = true := fun {a b} h g => by
    unfold PyData.strOk at *
    show (a.cps ++ b.cps).all _ = true
    rw [Array.all_append, h, g]; rfl
  intro ts
  induction ts with
  | nil => intro k acc h _; exact h
  | cons t ts ih =>
    intro k acc h g
    refine ih (k + 1) _ (app (app h ?_) (g t (by simp))) fun u hu => g u (by simp [hu])
    split <;> decide +kernel
theorem shownAll_map : ∀ vs : List PV, PyData.shownAll vs = vs.map PyData.shown
  | [] => rfl
  | v :: vs => by rw [PyData.shownAll, shownAll_map vs]; rfl
theorem shown_strOk {vs : List PV} (h : ∀ v ∈ vs, rpLeaf v = true) : PyData.strOk (PyData.list vs).shown = true := by
  rw [PyData.shown, shownAll_map]
  have app : ∀ {a b : Str}, PyData.strOk a = true → PyData.strOk b = true → PyData.strOk (a ++ b) = true := fun {a b} h g => by
    unfold PyData.strOk at *
    show (a.cps ++ b.cps).all _ = true
    rw [Array.all_append, h, g]; rfl
  refine app (textFrom_strOk _ _ _ (by decide +kernel) fun t ht => ?_) (by decide +kernel)
  obtain ⟨v, hv, rfl⟩ := List.mem_map.mp ht
  have := h v hv
  unfold rpLeaf at this
  simp only [Bool.and_eq_true] at this
  exact this.2
theorem scmp_ok {op : CmpOp} {u v : SV} {a b : PV} {r : SV} (hs : St ρ σ s) (hu : Den ρ u a) (hv : Den ρ v b) (e : scmp op σ.ds u v = some r) : ∃ x, cmpOp op a b = some x ∧ Den ρ r (.bool x) := by
  unfold scmp at e
  split at e
  · split at e
    · rename_i xs ys hl
      cases e
      rw [Bool.and_eq_true] at hl
      have hx := sameDs_eq _ _ hl.1
      subst hx
      obtain ⟨vs, rfl, h1⟩ := hu
      obtain ⟨ws, rfl, h2⟩ := hv
      have hw := h1.uniq h2
      subst hw
      obtain ⟨c1, c2⟩ := canLayAll0_all (h1.all hl.2)
      refine ⟨false, ?_, by show (DD.leaf _).at ρ = _; rw [DD.at]⟩
      show (eqOp (.list vs) (.list vs)).map (!·) = _
      have sh : SeqAt.shaped (.list vs) = true := by
        simp only [SeqAt.shaped, PyData.canLay0, c1, PyData.depth, Bool.true_and]
        exact decide_eq_true (by omega)
      unfold eqOp
      rw [sh, if_pos (by rfl), SeqAt.eqv_refl _ (by simp [PyData.canLay0, c1])]
      rfl
    · cases e
  · split at e
    · rename_i xs ys hl
      cases e
      rw [Bool.and_eq_true] at hl
      have hx := sameDs_eq _ _ hl.1
      subst hx
      obtain ⟨vs, rfl, h1⟩ := hu
      obtain ⟨ws, rfl, h2⟩ := hv
      have hw := h1.uniq h2
      subst hw
      refine ⟨false, ?_, by show (DD.leaf _).at ρ = _; rw [DD.at]⟩
      have ok := shown_strOk (h1.all hl.2)
      show (eqOp (.str _) (.str _)).map (!·) = _
      have c1 : PyData.canLay0 (.str (PyData.list vs).shown) = true := by rw [PyData.canLay0]; exact ok
      have sh : SeqAt.shaped (.str (PyData.list vs).shown) = true := by
        simp only [SeqAt.shaped, c1, PyData.depth, Bool.true_and]
        exact decide_eq_true (by omega)
      unfold eqOp
      rw [sh, if_pos (by rfl), SeqAt.eqv_refl _ c1]
      rfl
    · cases e
  · obtain ⟨x, h1, h2⟩ := pwv_ok hs (vs := [a, b]) (show DenL ρ [u, v] [a, b] from ⟨hu, hv, trivial⟩) e
    have h1 : (cmpOp op a b).map PyData.bool = some x := h1
    cases ho : cmpOp op a b with
    | none => rw [ho] at h1; cases h1
    | some y => rw [ho] at h1; cases h1; exact ⟨y, rfl, h2⟩
def srepr (ds : List Nat) : SV → Option SRv
  | .sq false ts => if ts.all (allL rpLeaf) && decide (ts.length ≤ 1000) then some (.frz (.rp ts)) else none
  | u => pw (fun vs => match vs with | [a] => reprOp a | _ => none) ds [u]
theorem textFrom_len_le : ∀ (ts : List Str) (k : Nat) (acc : Str), (∀ t ∈ ts, t.length ≤ 10000) → (textFrom k acc ts).length ≤ acc.length + 10002 * ts.length := by
  intro ts
  induction ts with
  | nil => intro k acc h; exact Nat.le_add_right _ _
  | cons t ts ih =>
    intro k acc h
    have := ih (k + 1) (acc ++ (if k > 0 then ", " else "" : String) ++ t) fun u hu => h u (by simp [hu])
    have e : (acc ++ (if k > 0 then ", " else "" : String) ++ t).length ≤ acc.length + 2 + t.length := by
      rw [strLen_append, strLen_append]
      split <;> simp <;> decide
    have ht := h t (by simp)
    rw [List.length_cons]
    show (textFrom (k + 1) _ ts).length ≤ _
    omega
theorem plains_all : ∀ {vs : List PV}, (∀ v ∈ vs, rpLeaf v = true) → plains vs = true ∧ PyData.showableAll vs = true ∧ PyData.depthAll vs ≤ 50
  | [], _ => ⟨rfl, by simp [PyData.showableAll], by simp [PyData.depthAll]⟩
  | v :: vs, h => by
    obtain ⟨h1, h2, h4⟩ := plains_all fun w hw => h w (List.mem_cons_of_mem _ hw)
    have h3 := h v (by simp)
    unfold rpLeaf at h3
    simp only [Bool.and_eq_true, decide_eq_true_eq] at h3
    refine ⟨by rw [plains, h3.1.1.1.1, h1]; rfl, by rw [PyData.showableAll, h3.1.1.1.2, h2]; rfl, ?_⟩
    rw [PyData.depthAll]
    omega
theorem srepr_ok {u : SV} {a : PV} {r : SRv} (hs : St ρ σ s) (hu : Den ρ u a) (e : srepr σ.ds u = some r) : ∃ x, reprOp a = some x ∧ DenR ρ r x := by
  unfold srepr at e
  split at e
  · split at e
    · rename_i ts hl
      cases e
      rw [Bool.and_eq_true, decide_eq_true_eq] at hl
      obtain ⟨vs, rfl, h1⟩ := hu
      have hv := h1.all hl.1
      obtain ⟨p1, p2, p3⟩ := plains_all hv
      refine ⟨.frz (.str (PyData.list vs).shown), ?_, vs, rfl, h1⟩
      show (if plain (.list vs) && PyData.showable (.list vs) && decide ((PyData.list vs).shown.length ≤ lim) && decide ((PyData.list vs).depth ≤ 60) then _ else _) = _
      have len : (PyData.list vs).shown.length ≤ lim := by
        rw [PyData.shown, shownAll_map]
        have := textFrom_len_le (vs.map PyData.shown) 0 "[" fun t ht => by
          obtain ⟨v, hm, rfl⟩ := List.mem_map.mp ht
          have := hv v hm
          unfold rpLeaf at this
          simp only [Bool.and_eq_true, decide_eq_true_eq] at this
          exact this.1.2
        unfold listText
        rw [strLen_append]
        have l1 : (("[" : String) : Str).length = 1 := by decide +kernel
        have l2 : (("]" : String) : Str).length = 1 := by decide +kernel
        rw [l1, List.length_map, ← h1.len] at this
        rw [l2]
        have := hl.2
        unfold lim
        omega
      have dp : (PyData.list vs).depth ≤ 60 := by rw [PyData.depth]; omega
      refine if_pos ?_
      rw [plain, p1, PyData.showable, p2, decide_eq_true len, decide_eq_true dp]; rfl
    · cases e
  · obtain ⟨x, h1, h2⟩ := pw_ok hs (vs := [a]) (show DenL ρ [u] [a] from ⟨hu, trivial⟩) e
    exact ⟨x, h1, h2⟩
/-! ### calls -/
def callR (c : Cf) (f : Nat) (vs : List PV) : Option Rv := if c.lent f = [] then match c.Φ f vs with
  | some (r, []) => some r
  | _ => none else none
theorem passArgs_nil : ∀ {rs : List Rv} {s : Env} {vs : List PV} {k : Nat}, (∀ s, fzs rs s = .ok vs s) → passArgs [] k rs s = .ok (vs, []) s
  | [], s, vs, k, h => by have := h s; cases this; rfl
  | r :: rs, s, vs, k, h => by
    have h0 := h s
    obtain ⟨v, s1, h1, h2⟩ := bind_inv (show (do let v ← fz r; let vs ← fzs rs; Pure.pure (v :: vs) : M (List PV)) s = _ from h0)
    have hs1 : s1 = s ∧ ∀ s, fz r s = .ok v s := by
      cases r with
      | frz x => cases h1; exact ⟨rfl, fun _ => rfl⟩
      | own x => cases h1; exact ⟨rfl, fun _ => rfl⟩
      | slot i => cases h1
    obtain ⟨rfl, h3⟩ := hs1
    obtain ⟨ws, s2, h4, h5⟩ := bind_inv h2
    obtain ⟨e1, e2⟩ := pure_inv h5
    subst e1
    have h6 : ∀ s, fzs rs s = .ok ws s := fun s' => by
      obtain ⟨v', t1, g1, g2⟩ := bind_inv (show (do let v ← fz r; let vs ← fzs rs; Pure.pure (v :: vs) : M (List PV)) s' = _ from h s')
      rw [h3] at g1
      cases g1
      obtain ⟨ws', t2, g4, g5⟩ := bind_inv g2
      obtain ⟨e3, e4⟩ := pure_inv g5
      cases e3
      subst e4
      exact g4
    have ih := passArgs_nil (s := s1) (k := k + 1) h6
    show (do let p ← passOne [] k r; let q ← passArgs [] (k + 1) rs; Pure.pure (p.1 :: q.1, p.2 ++ q.2) : M (List PV × List Nat)) s1 = _
    have hp : passOne [] k r s1 = .ok (v, []) s1 := by
      show (fz r >>= fun v => Pure.pure (v, [])) s1 = _
      rw [bind_def, h3, andThen_ok]; rfl
    rw [bind_def, hp, andThen_ok, bind_def, ih, andThen_ok]
    rfl
theorem callR_fn {f : Nat} {rs : List Rv} {vs : List PV} {r : Rv} (h : ∀ s, fzs rs s = .ok vs s) (e : callR c f vs = some r) : callFn c f rs s = .ok r s := by
  unfold callR at e
  split at e
  · rename_i hl
    split at e
    · rename_i r' hp
      cases e
      unfold callFn
      rw [bind_def, hl, passArgs_nil h, andThen_ok]
      dsimp only
      rw [if_pos (by simp)]
      rw [bind_def, hp, opt_some, andThen_ok]
      rfl
    · cases e
  · cases e
theorem callR_x {f : Nat} {vs : List PV} {r : Rv} (e : callR c f vs = some r) : callX c f vs s = .ok r s := by
  unfold callR at e
  split at e
  · rename_i hl
    split at e
    · rename_i r' hp
      cases e
      show (if c.lent f = [] then _ else _ : RE Rv) = _
      rw [if_pos hl, hp]
    · cases e
  · cases e
def metF (c : Cf) (d : MetD) (f : Nat) (vs : List PV) : Option PV := if c.lent f = [] then match c.Φ f vs with
  | some (.frz v, []) => some (.tuple [.str d.told, v])
  | some (.own v, []) => some (.tuple [.str d.told, v])
  | some _ => none
  | none => match c.Ξ f vs with
    | some (k, v) => d.res k v
    | none => none
  else none
theorem metF_ok {d : MetD} {f : Nat} {vs : List PV} {w : PV} (e : metF c d f vs = some w) : metM d (callX c f vs) s = .ok (.frz w) s := by
  unfold metF at e
  split at e
  · rename_i hl
    have hx : callX c f vs s = (match c.Φ f vs with
    | some (r, []) => .ok r s
    | some _ => .stuck
    | none => match c.Ξ f vs with
      | some (k, v) => .exc k v
      | none => .stuck : RE Rv) := by
      show (if c.lent f = [] then _ else _ : RE Rv) = _
      rw [if_pos hl]
      all_goals (cases c.Φ f vs with
      | none => cases c.Ξ f vs <;> rfl
      | some p => obtain ⟨r, os⟩ := p; cases os <;> rfl)
    unfold metM
    rw [hx]
    split at e
    · rename_i hp; cases e; rw [hp]
    · rename_i hp; cases e; rw [hp]
    · cases e
    · rename_i hp
      rw [hp]
      cases hq : c.Ξ f vs with
      | none => rw [hq] at e; cases e
      | some q => rw [hq] at e; obtain ⟨k, v⟩ := q; dsimp only at e ⊢; rw [e]
  · cases e
end
end Ev

/-! EvS3: expressions over trees. -/
namespace Ev
open PySem
/-- what a pick does -/
structure PickOk (c : Cf) (pk : Nat) : Prop where
  lent : c.lent pk = [0]
  run : ∀ (e : PV) (xs : List PV), Ew3 e → 0 < xs.length → xs.length < 2 ^ 24 → ∃ (k : Nat) (x e' : PV), Ew3 e' ∧ xs[k]? = some x ∧ c.Φ pk [e, .list xs] = some (.frz x, [e'])
def slst : SV → Option (List DD)
  | .sq false ts => some ts
  | .dd (.leaf (.list xs)) => some (xs.map .leaf)
  | _ => none
def spick (v : SV) : SM SRv := fun σ => match σ.env[0]?, slst v with
  | some SSlot.crk, some ts => if 0 < ts.length ∧ ts.length < 2 ^ 24 then some (.frz (.dd (.node σ.ds.length ts)), ⟨σ.ds ++ [ts.length], σ.env⟩) else none
  | _, _ => none
def sbool : SV → Option Bool
  | .dd (.leaf (.bool b)) => some b
  | _ => none
def struth : SV → Option Bool
  | .dd (.leaf v) => truth v
  | .sq _ ts => some (!ts.isEmpty)
  | _ => none
def sitems (k : ItK) (vs : List SV) : Option (List DD) := match k, vs with
  | .val, [.sq _ ts] => some ts
  | k, vs => match toDs [] vs with
    | some ts => (leaves ts).bind fun us => (items k us).map fun ws => ws.map .leaf
    | none => none
def shideable : SSlot → Bool
  | .emp => true | .frz _ => true | _ => false
def shide (vs : List Nat) (e : List SSlot) : List SSlot := vs.foldl (fun s i => s.set i .emp) e
def shideM (vs : List Nat) : SM Unit := fun σ => if vs.all (fun i => (σ.env[i]?.map shideable).getD false) then some ((), ⟨σ.ds, shide vs σ.env⟩) else none
def slcLoop (vs : List Nat) (f : DD → SM (Option SV)) : List DD → List DD → SM (List DD)
  | [], acc => pure acc
  | x :: xs, acc => do
    let r ← f x
    shideM vs
    let acc2 ← sop fun σ => match r with
      | some v => (toD σ.ds v).map fun t => acc ++ [t]
      | none => some acc
    slcLoop vs f xs acc2
def srestore (vs : List Nat) (e0 e : List SSlot) : List SSlot := vs.foldl (fun s i => s.set i (e0.getD i .emp)) e
def slcAll (vs : List Nat) (f : DD → SM (Option SV)) (ts : List DD) : SM SRv := fun σ0 => match (do shideM vs; slcLoop vs f ts [] : SM (List DD)) σ0 with
  | some (acc, σ) => some (.own (.sq false acc), ⟨σ.ds, srestore vs σ0.env σ.env⟩)
  | none => none
def negF : List PV → Option PV
  | [.int i] => some (.int (-i))
  | _ => none
def invF : List PV → Option PV
  | [.int i] => some (.int (Builtin.bitNot i))
  | _ => none
def bkF (k : BK) : List PV → Option Rv
  | [x, d] => bkOp k x d
  | _ => none
def dispF : List PV → Option Rv
  | [x, d] => dispOp x d
  | _ => none
def notF : List PV → Option PV
  | [v] => (truth v).map fun b => .bool (!b)
  | _ => none
def idxF : List PV → Option PV
  | [a, b] => idxOp a b
  | _ => none
def isiF (T : Ty) : List PV → Option PV
  | [v] => (isiOp T v).map .bool
  | _ => none
def pwr (g : List PV → Option PV) (ds : List Nat) (xs : List SV) : Option SRv := (pwv g ds xs).map .frz
theorem pwr_ok {g : List PV → Option PV} {ρ : List Nat} {σ : SSt} {s : Env} (hs : St ρ σ s) {xs : List SV} {vs : List PV} {r : SRv} (h : DenL ρ xs vs) (e : pwr g σ.ds xs = some r) : ∃ a, g vs = some a ∧ DenR ρ r (.frz a) := by
  unfold pwr at e
  cases hq : pwv g σ.ds xs with
  | none => rw [hq] at e; cases e
  | some q => rw [hq] at e; cases e; exact pwv_ok hs h hq
mutual
def sev (c : Cf) (pk : Nat) : E → SM SRv
  | .cint i => pure (.frz (.dd (.leaf (.int i))))
  | .cbl b => pure (.frz (.dd (.leaf (.bool b))))
  | .cnon => pure (.frz (.dd (.leaf .none)))
  | .cstr z => pure (.frz (.dd (.leaf (.str z))))
  | .var i => sVar i
  | .mv i => sMv i
  | .peek i => sPeek i
  | .glb g => sop fun _ => (c.G[g]?).map fun v => .frz (.dd (.leaf v))
  | .bin op a b => do let x ← sev c pk a; let y ← sev c pk b; let u ← sop (sopd x); let v ← sop (sopd y); sop fun σ => sbin op σ.ds u v
  | .neg a => do let x ← sev c pk a; let u ← sop (sopd x); sop fun σ => pwr negF σ.ds [u]
  | .not a => do let x ← sev c pk a; let u ← sop (sopd x); sop fun σ => pwr notF σ.ds [u]
  | .bop op es => sevB c pk op es
  | .cmp op a b => do let x ← sev c pk a; let y ← sev c pk b; let u ← sop (sopd x); let v ← sop (sopd y); let r ← sop fun σ => scmp op σ.ds u v; pure (.frz r)
  | .ite t a b => do let x ← sev c pk t; let u ← sop (sopd x); let k ← sop fun _ => struth u; if k then sev c pk a else sev c pk b
  | .tup es => do let rs ← sevA c pk es; let vs ← sop fun _ => sfzs rs; sop fun σ => (toDs σ.ds vs).bind fun ts => if ts.length ≤ lim then some (.frz (.sq true ts)) else none
  | .lst es => do let rs ← sevA c pk es; let vs ← sop fun _ => sfzs rs; sop fun σ => (toDs σ.ds vs).bind fun ts => if ts.length ≤ lim then some (.own (.sq false ts)) else none
  | .dct0 => pure (.own (.dd (.leaf (.dict []))))
  | .bk k a d => do let x ← sev c pk a; let y ← sev c pk d; let u ← sop (sopd x); let v ← sop (sopd y); sop fun σ => pw (bkF k) σ.ds [u, v]
  | .disp1 k e => do let x ← sev c pk k; let u ← sop fun _ => sfz x; let y ← sev c pk e; let v ← sop fun _ => sfz y; sop fun σ => pw dispF σ.ds [u, v]
  | .inv a => do let x ← sev c pk a; let u ← sop (sopd x); sop fun σ => pwr invF σ.ds [u]
  | .idx a i => do let x ← sev c pk a; let y ← sev c pk i; let u ← sop (sopd x); let v ← sop (sopd y); sop fun σ => pwr idxF σ.ds [u, v]
  | .isi T a => do let x ← sev c pk a; let u ← sop (sopd x); sop fun σ => pwr (isiF T) σ.ds [u]
  | .blt b es => do let rs ← sevs c pk es; let vs ← sop (sopds rs); sop fun σ => pw (bltOp b) σ.ds vs
  | .call f es => if f = pk then (match es with
      | [.peek i, e] => if i = 0 then (do
        let p ← sPeek 0
        match p with
        | .slot _ => (do let r ← sev c pk e; let v ← sop fun _ => sfz r; spick v)
        | _ => SM.fail) else SM.fail
      | _ => SM.fail)
    else do let rs ← sevs c pk es; let vs ← sop fun _ => sfzs rs; sop fun σ => pw (callR c f) σ.ds vs
  | .callG f es => if f = pk then SM.fail else do let rs ← sevs c pk es; let vs ← sop fun _ => sfzs rs; sop fun σ => pw (callR c f) σ.ds vs
  | .callv i es => do
    let f ← sop fun σ => match σ.env[i]? with | some (.fn f) => some f | _ => none
    let rs ← sevs c pk es; let vs ← sop fun _ => sfzs rs; sop fun σ => pw (callR c f) σ.ds vs
  | .reprD e => do let r ← sev c pk e; let v ← sop (sopd r); sop fun σ => srepr σ.ds v
  | .met m d f es => do let rs ← sevs c pk es; let vs ← sop fun _ => sfzs rs; sop fun σ => pwr (metF c d f) σ.ds vs
  | .metv m d i es => do
    let f ← sop fun σ => match σ.env[i]? with | some (.fn f) => some f | _ => none
    let rs ← sevs c pk es; let vs ← sop fun _ => sfzs rs; sop fun σ => pwr (metF c d f) σ.ds vs
  | .lc own elt tg k its ifs => do
    let rs ← sevs c pk its; let vs ← sop fun _ => sfzs rs; let ts ← sop fun _ => sitems k vs
    slcAll (own.map (·.2)) (fun t => match tg with
      | .name j => do
        sstore j (.frz (.dd t))
        let b ← sevT c pk ifs
        if b then do let r ← sev c pk elt; let v ← sop fun _ => sfz r; pure (some v) else pure none
      | _ => SM.fail) ts
  | _ => SM.fail
def sevB (c : Cf) (pk : Nat) (op : BoolOp) : List E → SM SRv
  | [] => SM.fail
  | [e] => do let r ← sev c pk e; let v ← sop fun _ => sfz r; pure (.frz v)
  | e :: es => do
    let x ← sev c pk e
    let u ← sop (sopd x)
    let b ← sop fun _ => sbool u
    match b, op with
    | false, .And => pure (.frz (.dd (.leaf (.bool false))))
    | true, .And => sevB c pk op es
    | true, .Or => pure (.frz (.dd (.leaf (.bool true))))
    | false, .Or => sevB c pk op es
def sevs (c : Cf) (pk : Nat) : List E → SM (List SRv)
  | [] => pure []
  | e :: es => do let r ← sev c pk e; let rs ← sevs c pk es; pure (r :: rs)
def sevA (c : Cf) (pk : Nat) : List E → SM (List SRv)
  | [] => pure []
  | e :: es => match e with
    | .star _ => SM.fail
    | e => do let r ← sev c pk e; let v ← sop fun _ => sfz r; let rs ← sevA c pk es; pure (.frz v :: rs)
def sevT (c : Cf) (pk : Nat) : List E → SM Bool
  | [] => pure true
  | e :: es => do
    let x ← sev c pk e; let u ← sop (sopd x); let b ← sop fun _ => struth u
    if b then sevT c pk es else pure false
end
section
variable {ρ : List Nat} {s : Env} {σ : SSt} {c : Cf} {pk : Nat}
theorem DenRs.more (x : List Nat) : ∀ {xs : List SRv} {ys : List Rv}, DenRs ρ xs ys → DenRs (ρ ++ x) xs ys
  | [], [], _ => trivial
  | _ :: _, _ :: _, h => ⟨h.1.more x, DenRs.more x h.2⟩
  | [], _ :: _, h => h.elim
  | _ :: _, [], h => h.elim
theorem den_leaf {v : PV} : Den ρ (.dd (.leaf v)) v := by show (DD.leaf v).at ρ = _; rw [DD.at]
theorem den_leaf_eq {v w : PV} (h : Den ρ (.dd (.leaf v)) w) : w = v := by
  have h : (DD.leaf v).at ρ = some w := h
  rw [DD.at] at h
  exact (Option.some.inj h).symm
theorem struth_ok {u : SV} {a : PV} {b : Bool} (h : Den ρ u a) (e : struth u = some b) : truth a = some b := by
  unfold struth at e
  split at e
  · rw [den_leaf_eq h]; exact e
  · rename_i q ts
    obtain ⟨vs, rfl, h2⟩ := h
    have hl := h2.len
    have : vs.isEmpty = ts.isEmpty := by
      cases vs <;> cases ts <;> first | rfl | (simp at hl)
    cases q <;> (show some (!vs.isEmpty) = _; rw [this]; exact e)
  · cases e
theorem sbool_ok {u : SV} {a : PV} {b : Bool} (h : Den ρ u a) (e : sbool u = some b) : a = .bool b := by
  unfold sbool at e
  split at e
  · cases e; exact den_leaf_eq h
  · cases e
theorem slst_ok {u : SV} {a : PV} {ts : List DD} (h : Den ρ u a) (e : slst u = some ts) : ∃ xs, a = .list xs ∧ Ats ρ ts xs := by
  unfold slst at e
  split at e
  · cases e
    obtain ⟨vs, rfl, h2⟩ := h
    exact ⟨vs, rfl, h2⟩
  · rename_i xs
    cases e
    refine ⟨xs, den_leaf_eq h, ?_⟩
    clear h
    induction xs with
    | nil => trivial
    | cons x xs ih => exact ⟨by rw [DD.at], ih⟩
  · cases e
theorem ats_leaves : ∀ xs : List PV, Ats ρ (xs.map .leaf) xs
  | [] => trivial
  | x :: xs => ⟨by rw [DD.at], ats_leaves xs⟩
theorem mapN_nil {f : List PV → Option PV} {i : Nat} {ts : List DD} {vs : List PV} {w : DD} (h : Ats ρ ts vs) (e : mapN f [] i ts = some w) : ∃ v, f vs = some v ∧ w.at ρ = some v := by
  rw [mapN] at e
  cases hl : leaves ts with
  | none => rw [hl] at e; cases e
  | some us =>
    rw [hl] at e
    have := leaves_at hl h
    subst this
    cases hf : f vs with
    | none => rw [Option.bind_some, hf] at e; cases e
    | some v => rw [Option.bind_some, hf] at e; cases e; exact ⟨v, rfl, by rw [DD.at]⟩
theorem toD_nil {x : SV} {t : DD} {v : PV} (h : Den ρ x v) (e : toD [] x = some t) : t.at ρ = some v := by
  cases x with
  | dd u => cases e; exact h
  | sq b ts =>
    obtain ⟨vs, rfl, h2⟩ := h
    obtain ⟨w, h3, h4⟩ := mapN_nil (i := 0) h2 e
    cases h3
    exact h4
  | rp ts => cases e
theorem toDs_nil : ∀ {xs : List SV} {ts : List DD} {vs : List PV}, DenL ρ xs vs → toDs [] xs = some ts → Ats ρ ts vs
  | [], ts, [], _, e => by cases e; trivial
  | [], _, _ :: _, h, _ => h.elim
  | _ :: _, _, [], h, _ => h.elim
  | x :: xs, ts, v :: vs, h, e => by
    rw [toDs] at e
    cases h1 : toD [] x with
    | none => rw [h1] at e; cases e
    | some t =>
      cases h2 : toDs [] xs with
      | none => rw [h1, h2] at e; cases e
      | some us =>
        rw [h1, h2] at e
        cases e
        exact ⟨toD_nil h.1 h1, toDs_nil h.2 h2⟩
theorem sitems_ok {k : ItK} {us : List SV} {vs : List PV} {ts : List DD} (h : DenL ρ us vs) (e : sitems k us = some ts) : ∃ xs, items k vs = some xs ∧ Ats ρ ts xs := by
  unfold sitems at e
  split at e
  · cases e
    cases vs with
    | nil => exact h.elim
    | cons v vs =>
      cases vs with
      | cons _ _ => exact h.2.elim
      | nil =>
        have key : ∀ (q : Bool) (us : List DD), Den ρ (.sq q us) v → ∃ xs, items .val [v] = some xs ∧ Ats ρ us xs := fun q us hd => by
          obtain ⟨ws, rfl, h2⟩ := hd
          cases q <;> exact ⟨ws, rfl, h2⟩
        exact key _ _ h.1
  · split at e
    · rename_i us2 hd
      have ha := toDs_nil h hd
      cases hl : leaves us2 with
      | none => rw [hl] at e; cases e
      | some ws =>
        rw [hl, Option.bind_some] at e
        have := leaves_at hl ha
        subst this
        cases hi : items k vs with
        | none => rw [hi] at e; cases e
        | some xs => rw [hi] at e; cases e; exact ⟨xs, rfl, ats_leaves xs⟩
    · cases e
theorem spick_ok {r : Rv} {rv : SRv} {v : SV} (hp : PickOk c pk) (hs : St ρ σ s) (hd : DenR ρ rv r) (hv : sfz rv = some v) : Ok ρ s σ (callFn c pk [.slot 0, r]) (spick v) DenR := by
  intro b σ1 e
  obtain ⟨w, hw, dw⟩ := sfz_now hd hv
  unfold spick at e
  split at e
  · rename_i ts h0 hl
    split at e
    · rename_i hlen
      cases e
      obtain ⟨y, h1, h2⟩ := hs.2.2.get h0
      cases y <;> first | exact h2.elim | skip
      rename_i ew
      obtain ⟨xs, rfl, ha⟩ := slst_ok dw hl
      rw [ha.len] at hlen
      obtain ⟨k, x, e', he', hk, hr⟩ := hp.run ew xs h2 hlen.1 hlen.2
      have hkl : k < xs.length := by rw [List.getElem?_eq_some_iff] at hk; exact hk.1
      have ha2 := ha.more [k]
      have hlast : (ρ ++ [k])[σ.ds.length]? = some k := by rw [← hs.1]; simp
      refine ⟨[k], .frz x, s.set 0 (.io e'), ⟨by simp [hs.1], ?_, ?_⟩, ?_, ?_⟩
      · intro j n hj
        by_cases hlt : j < σ.ds.length
        · rw [List.getElem?_append_left hlt] at hj
          obtain ⟨q, h3, h4⟩ := hs.2.1 j n hj
          refine ⟨q, ?_, h4⟩
          rw [List.getElem?_append_left (by rw [hs.1]; exact hlt)]; exact h3
        · have : j = σ.ds.length := by
            have := (List.getElem?_eq_some_iff.mp hj).1
            simp at this; omega
          subst this
          simp at hj
          refine ⟨k, hlast, ?_⟩
          rw [← hj, ha.len]; exact hkl
      · have h3 := (hs.2.2.more [k]).set (i := 0) (x := .crk) (y := .io e') he'
        have h4 : σ.env.set 0 .crk = σ.env := by
          cases he : σ.env with
          | nil => rfl
          | cons a as => rw [he] at h0; simp at h0; rw [h0]; rfl
        rw [h4] at h3
        exact h3
      · unfold callFn
        have p : passArgs (c.lent pk) 0 [.slot 0, r] s = .ok ([ew, .list xs], [0]) s := by
          rw [hp.lent]
          show (do let p ← passOne [0] 0 (.slot 0); let q ← passArgs [0] 1 [r]; Pure.pure (p.1 :: q.1, p.2 ++ q.2) : M (List PV × List Nat)) s = _
          have p1 : passOne [0] 0 (.slot 0) s = .ok (ew, [0]) s := by
            unfold passOne
            rw [if_pos (by decide)]
            dsimp only
            rw [h1]
          have p2 : passArgs [0] 1 [r] s = .ok ([.list xs], []) s := by
            show (do let p ← passOne [0] 1 r; let q ← passArgs [0] 2 []; Pure.pure (p.1 :: q.1, p.2 ++ q.2) : M (List PV × List Nat)) s = _
            have p3 : passOne [0] 1 r s = .ok (.list xs, []) s := by
              show (fz r >>= fun v => Pure.pure (v, [])) s = _
              rw [bind_def, hw, andThen_ok]; rfl
            rw [bind_def, p3, andThen_ok]; rfl
          rw [bind_def, p1, andThen_ok, bind_def, p2, andThen_ok]; rfl
        rw [bind_def, p, andThen_ok]
        dsimp only
        rw [if_pos (by simp), bind_def, hr, opt_some, andThen_ok]
        have g : giveBack [0] [e'] s = .ok () (s.set 0 (.io e')) := by
          show (match s[0]? with
            | some (Slot.own _) => giveBack [] [] (s.set 0 (.own e'))
            | some (Slot.io _) => giveBack [] [] (s.set 0 (.io e'))
            | _ => .stuck : RE Unit) = _
          rw [h1]; rfl
        show (giveBack [0] [e'] s).andThen _ = _
        rw [g]; rfl
      · show (DD.node σ.ds.length ts).at (ρ ++ [k]) = some x
        rw [at_node hlast]
        have htl : k < ts.length := by rw [ha.len]; exact hkl
        have := ha2.get (List.getElem?_eq_getElem htl)
        obtain ⟨v2, g1, g2⟩ := this
        rw [List.getElem?_eq_getElem htl, Option.bind_some, g2, ← g1, hk]
    · cases e
  · cases e
theorem shide_ok : ∀ {vs : List Nat} {e : List SSlot} {s : Env}, EnvD ρ e s → EnvD ρ (shide vs e) (hide vs s)
  | [], _, _, h => h
  | i :: vs, e, s, h => by
    show EnvD ρ (shide vs (e.set i .emp)) (hide vs (s.set i .emp))
    exact shide_ok (h.set (x := .emp) (y := .emp) trivial)
theorem shideM_ok {vs : List Nat} (hs : St ρ σ s) : Ok ρ s σ (hideM vs) (shideM vs) (fun _ _ _ => True) := by
  refine Ok.step fun b σ' e => ?_
  unfold shideM at e
  split at e
  · rename_i ha
    cases e
    refine ⟨(), hide vs s, ⟨hs.1, hs.2.1, shide_ok hs.2.2⟩, ?_, trivial⟩
    unfold hideM
    rw [if_pos]
    rw [List.all_eq_true] at ha ⊢
    intro i hi
    have := ha i hi
    cases hx : σ.env[i]? with
    | none => rw [hx] at this; cases this
    | some x =>
      rw [hx] at this
      have this : shideable x = true := this
      obtain ⟨y, h1, h2⟩ := hs.2.2.get hx
      rw [h1]
      cases x <;> cases y <;> first | rfl | exact h2.elim | cases this
  · cases e
theorem srestore_ok {e0 : List SSlot} {s0 : Env} (h0 : EnvD ρ e0 s0) : ∀ {vs : List Nat} {e : List SSlot} {s : Env}, EnvD ρ e s → EnvD ρ (srestore vs e0 e) (restore vs s0 s)
  | [], _, _, h => h
  | i :: vs, e, s, h => by
    show EnvD ρ (srestore vs e0 (e.set i (e0.getD i .emp))) (restore vs s0 (s.set i (s0.getD i .emp)))
    refine srestore_ok h0 (h.set ?_)
    cases hx : e0[i]? with
    | none => simp [List.getD_eq_getElem?_getD, hx, h0.none hx]; trivial
    | some x =>
      obtain ⟨y, h1, h2⟩ := h0.get hx
      simp [List.getD_eq_getElem?_getD, hx, h1]; exact h2
end
end Ev

/-! EvS4: what the trees tell holds. -/
namespace Ev
open PySem
section
variable {c : Cf} {pk : Nat}
theorem lookFn_ok {ρ : List Nat} {s : Env} {σ : SSt} {i : Nat} (hs : St ρ σ s) : Ok ρ s σ (lookFn i) (sop fun σ => match σ.env[i]? with | some (.fn f) => some f | _ => none) (fun _ (b a : Nat) => b = a) := Ok.now hs fun b e => by
  split at e
  · rename_i f h
    cases e
    obtain ⟨y, h1, h2⟩ := hs.2.2.get h
    cases y <;> first | exact h2.elim | skip
    refine ⟨_, ?_, h2⟩
    unfold lookFn
    rw [h1]
  · cases e
def lcTurn2 (c : Cf) (j : Nat) (ifs : List E) (elt : E) (x : PV) : M (Option PV) := do
  bindT (.name j) x
  let b ← evT c ifs
  if b then do let r ← ev c elt; let v ← fz r; pure (some v) else pure none
def DenO (ρ : List Nat) : Option SV → Option PV → Prop
  | some t, some v => Den ρ t v
  | none, none => True
  | _, _ => False
theorem slcLoop_ok {vs : List Nat} {f : PV → M (Option PV)} {g : DD → SM (Option SV)} (H : ∀ {ρ : List Nat} {s : Env} {σ : SSt} (t : DD) (v : PV), St ρ σ s → t.at ρ = some v → Ok ρ s σ (f v) (g t) DenO) :
    ∀ {ts : List DD} {xs : List PV} {acc : List DD} {bcc : List PV} {ρ : List Nat} {s : Env} {σ : SSt}, St ρ σ s → Ats ρ ts xs → Ats ρ acc bcc → Ok ρ s σ (lcLoop vs f xs bcc) (slcLoop vs g ts acc) Ats
  | [], [], acc, bcc, ρ, s, σ, hs, _, hb => Ok.pure hs hb
  | [], _ :: _, _, _, _, _, _, _, h, _ => h.elim
  | _ :: _, [], _, _, _, _, _, _, h, _ => h.elim
  | t :: ts, x :: xs, acc, bcc, ρ, s, σ, hs, h, hb => by
    refine Ok.bind (H t x hs h.1) fun e1 b a s1 σ1 hs1 hr => ?_
    refine Ok.bind (shideM_ok hs1) fun e2 _ _ s2 σ2 hs2 _ => ?_
    intro d σ3 e
    -- the pure step of the tree side
    change SM.bind (sop _) _ σ2 = _ at e
    unfold SM.bind sop at e
    cases b with
    | none =>
      cases a with
      | some _ => exact hr.elim
      | none =>
        dsimp only [Option.map] at e
        exact slcLoop_ok H hs2 ((h.2.more e1).more e2) ((hb.more e1).more e2) d σ3 e
    | some tv =>
      cases a with
      | none => exact hr.elim
      | some v =>
        have hr : Den (ρ ++ e1) tv v := hr
        dsimp only at e
        cases hd : toD σ2.ds tv with
        | none => rw [hd] at e; cases e
        | some t2 =>
          rw [hd] at e
          dsimp only [Option.map] at e
          have h5 := toD_ok hs2 (hr.more e2) hd
          have h6 : Ats ((ρ ++ e1) ++ e2) (acc ++ [t2]) (bcc ++ [v]) := ((hb.more e1).more e2).app ⟨h5, trivial⟩
          exact slcLoop_ok H hs2 ((h.2.more e1).more e2) h6 d σ3 e
theorem slcAll_ok {vs : List Nat} {f : PV → M (Option PV)} {g : DD → SM (Option SV)} (H : ∀ {ρ : List Nat} {s : Env} {σ : SSt} (t : DD) (v : PV), St ρ σ s → t.at ρ = some v → Ok ρ s σ (f v) (g t) DenO)
    {ts : List DD} {xs : List PV} {ρ : List Nat} {s : Env} {σ : SSt} (hs : St ρ σ s) (h : Ats ρ ts xs) : Ok ρ s σ (lcAll vs f xs) (slcAll vs g ts) DenR := by
  intro b σ1 e
  unfold slcAll at e
  split at e
  · rename_i acc σ2 h1
    cases e
    have h2 : Ok ρ s σ (do hideM vs; lcLoop vs f xs [] : M (List PV)) (do shideM vs; slcLoop vs g ts [] : SM (List DD)) Ats :=
      Ok.bind (shideM_ok hs) fun e2 _ _ s2 σ2 hs2 _ => slcLoop_ok H hs2 (h.more e2) trivial
    obtain ⟨ext, a, s', k1, k2, k3⟩ := h2 acc σ2 h1
    refine ⟨ext, .own (.list a), restore vs s s', ⟨k1.1, k1.2.1, srestore_ok (hs.2.2.more ext) k1.2.2⟩, ?_, a, rfl, k3⟩
    unfold lcAll
    rw [k2]; rfl
  · cases e
theorem Ok.ite {α β : Type} {ρ : List Nat} {s : Env} {σ : SSt} {b : Bool} {m1 m2 : M α} {n1 n2 : SM β} {R : List Nat → β → α → Prop} (h1 : Ok ρ s σ m1 n1 R) (h2 : Ok ρ s σ m2 n2 R) : Ok ρ s σ (if b then m1 else m2) (if b then n1 else n2) R := by
  cases b
  · exact h2
  · exact h1
mutual
theorem sev_ok (hp : PickOk c pk) : ∀ (e : E) {ρ : List Nat} {s : Env} {σ : SSt}, St ρ σ s → Ok ρ s σ (ev c e) (sev c pk e) DenR
  | .cint i, ρ, s, σ, hs => by rw [ev, sev]; exact Ok.pure hs den_leaf
  | .cbl b, ρ, s, σ, hs => by rw [ev, sev]; exact Ok.pure hs den_leaf
  | .cnon, ρ, s, σ, hs => by rw [ev, sev]; exact Ok.pure hs den_leaf
  | .cstr z, ρ, s, σ, hs => by rw [ev, sev]; exact Ok.pure hs den_leaf
  | .var i, ρ, s, σ, hs => by rw [ev, sev]; exact sVar_ok hs
  | .mv i, ρ, s, σ, hs => by rw [ev, sev]; exact sMv_ok hs
  | .peek i, ρ, s, σ, hs => by rw [ev, sev]; exact sPeek_ok hs
  | .glb g, ρ, s, σ, hs => by
    rw [ev, sev]
    refine Ok.now hs fun b e => ?_
    cases hg : c.G[g]? with
    | none => rw [hg] at e; cases e
    | some v => rw [hg] at e; cases e; exact ⟨.frz v, rfl, den_leaf⟩
  | .bin op a b, ρ, s, σ, hs => by
    rw [ev, sev]
    refine Ok.bind (sev_ok hp a hs) fun e1 x x' s1 σ1 hs1 r1 => Ok.bind (sev_ok hp b hs1) fun e2 y y' s2 σ2 hs2 r2 => Ok.bind (sopd_ok hs2 (r1.more e2)) fun e3 u u' s3 σ3 hs3 r3 => Ok.bind (sopd_ok hs3 (r2.more e3)) fun e4 v v' s4 σ4 hs4 r4 => Ok.now hs4 fun t e => ?_
    obtain ⟨w, h1, h2⟩ := sbin_ok hs4 (r3.more e4) r4 e
    exact ⟨w, by rw [h1]; rfl, h2⟩
  | .neg a, ρ, s, σ, hs => by
    rw [ev, sev]
    refine Ok.bind (sev_ok hp a hs) fun e1 x x' s1 σ1 hs1 r1 => Ok.bind (sopd_ok hs1 r1) fun e3 u u' s3 σ3 hs3 r3 => Ok.now hs3 fun t e => ?_
    obtain ⟨w, h1, h2⟩ := pwr_ok hs3 (vs := [u']) (show DenL _ [u] [u'] from ⟨r3, trivial⟩) e
    cases u' <;> first | (cases h1; exact ⟨_, rfl, h2⟩) | cases h1
  | .inv a, ρ, s, σ, hs => by
    rw [ev, sev]
    refine Ok.bind (sev_ok hp a hs) fun e1 x x' s1 σ1 hs1 r1 => Ok.bind (sopd_ok hs1 r1) fun e3 u u' s3 σ3 hs3 r3 => Ok.now hs3 fun t e => ?_
    obtain ⟨w, h1, h2⟩ := pwr_ok hs3 (vs := [u']) (show DenL _ [u] [u'] from ⟨r3, trivial⟩) e
    cases u' <;> first | (cases h1; exact ⟨_, rfl, h2⟩) | cases h1
  | .bk k a b, ρ, s, σ, hs => by
    rw [ev, sev]
    refine Ok.bind (sev_ok hp a hs) fun e1 x x' s1 σ1 hs1 r1 => Ok.bind (sev_ok hp b hs1) fun e2 y y' s2 σ2 hs2 r2 => Ok.bind (sopd_ok hs2 (r1.more e2)) fun e3 u u' s3 σ3 hs3 r3 => Ok.bind (sopd_ok hs3 (r2.more e3)) fun e4 v v' s4 σ4 hs4 r4 => Ok.now hs4 fun t e => ?_
    obtain ⟨w, h1, h2⟩ := pw_ok hs4 (vs := [u', v']) (show DenL _ [u, v] [u', v'] from ⟨r3.more e4, r4, trivial⟩) e
    exact ⟨w, by rw [show bkOp k u' v' = some w from h1]; rfl, h2⟩
  | .disp1 a b, ρ, s, σ, hs => by
    rw [ev, sev]
    refine Ok.bind (sev_ok hp a hs) fun e1 x x' s1 σ1 hs1 r1 => Ok.bind (sfz_ok hs1 r1) fun e2 u u' s2 σ2 hs2 r2 => Ok.bind (sev_ok hp b hs2) fun e3 y y' s3 σ3 hs3 r3 => Ok.bind (sfz_ok hs3 r3) fun e4 v v' s4 σ4 hs4 r4 => Ok.now hs4 fun t e => ?_
    obtain ⟨w, h1, h2⟩ := pw_ok hs4 (vs := [u', v']) (show DenL _ [u, v] [u', v'] from ⟨(r2.more e3).more e4, r4, trivial⟩) e
    exact ⟨w, by rw [show dispOp u' v' = some w from h1]; rfl, h2⟩
  | .not a, ρ, s, σ, hs => by
    rw [ev, sev]
    refine Ok.bind (sev_ok hp a hs) fun e1 x x' s1 σ1 hs1 r1 => Ok.bind (sopd_ok hs1 r1) fun e3 u u' s3 σ3 hs3 r3 => Ok.now hs3 fun t e => ?_
    obtain ⟨w, h1, h2⟩ := pwr_ok hs3 (vs := [u']) (show DenL _ [u] [u'] from ⟨r3, trivial⟩) e
    have h1 : (truth u').map (fun b => PyData.bool (!b)) = some w := h1
    cases ht : truth u' with
    | none => rw [ht] at h1; cases h1
    | some b => rw [ht] at h1; cases h1; exact ⟨_, by rw [bind_def]; rfl, h2⟩
  | .bop op es, ρ, s, σ, hs => by rw [ev, sev]; exact sevB_ok hp op es hs
  | .cmp op a b, ρ, s, σ, hs => by
    rw [ev, sev]
    refine Ok.bind (sev_ok hp a hs) fun e1 x x' s1 σ1 hs1 r1 => Ok.bind (sev_ok hp b hs1) fun e2 y y' s2 σ2 hs2 r2 => Ok.bind (sopd_ok hs2 (r1.more e2)) fun e3 u u' s3 σ3 hs3 r3 => Ok.bind (sopd_ok hs3 (r2.more e3)) fun e4 v v' s4 σ4 hs4 r4 =>
      Ok.bind (R := fun ρ t x => Den ρ t (.bool x)) (Ok.now hs4 fun t e => ?_) fun e5 t q s5 σ5 hs5 r5 => Ok.pure hs5 r5
    obtain ⟨w, h1, h2⟩ := scmp_ok hs4 (r3.more e4) r4 e
    exact ⟨w, by rw [h1]; rfl, h2⟩
  | .ite t a b, ρ, s, σ, hs => by
    rw [ev, sev]
    refine Ok.bind (sev_ok hp t hs) fun e1 x x' s1 σ1 hs1 r1 => Ok.bind (sopd_ok hs1 r1) fun e3 u u' s3 σ3 hs3 r3 => Ok.bind (R := fun _ b a => b = a) (Ok.now hs3 fun k e => ⟨k, by rw [struth_ok r3 e]; rfl, rfl⟩) fun e4 k k' s4 σ4 hs4 r4 => ?_
    cases r4
    exact Ok.ite (sev_ok hp a hs4) (sev_ok hp b hs4)
  | .tup es, ρ, s, σ, hs => by
    rw [ev, sev]
    refine Ok.bind (sevA_ok hp es hs) fun e1 x x' s1 σ1 hs1 r1 => Ok.bind (sfzs_ok hs1 r1) fun e3 u u' s3 σ3 hs3 r3 => Ok.now hs3 fun t e => ?_
    cases hq : toDs σ3.ds u with
    | none => rw [hq] at e; cases e
    | some ts =>
      rw [hq, Option.bind_some] at e
      have h1 := toDs_ok hs3 r3 hq
      split at e
      · rename_i hl
        cases e
        rw [h1.len] at hl
        exact ⟨.frz (.tuple u'), by rw [if_pos hl]; rfl, u', rfl, h1⟩
      · cases e
  | .lst es, ρ, s, σ, hs => by
    rw [ev, sev]
    refine Ok.bind (sevA_ok hp es hs) fun e1 x x' s1 σ1 hs1 r1 => Ok.bind (sfzs_ok hs1 r1) fun e3 u u' s3 σ3 hs3 r3 => Ok.now hs3 fun t e => ?_
    cases hq : toDs σ3.ds u with
    | none => rw [hq] at e; cases e
    | some ts =>
      rw [hq, Option.bind_some] at e
      have h1 := toDs_ok hs3 r3 hq
      split at e
      · rename_i hl
        cases e
        rw [h1.len] at hl
        exact ⟨.own (.list u'), by rw [if_pos hl]; rfl, u', rfl, h1⟩
      · cases e
  | .dct0, ρ, s, σ, hs => by rw [ev, sev]; exact Ok.pure hs den_leaf
  | .idx a b, ρ, s, σ, hs => by
    rw [ev, sev]
    refine Ok.bind (sev_ok hp a hs) fun e1 x x' s1 σ1 hs1 r1 => Ok.bind (sev_ok hp b hs1) fun e2 y y' s2 σ2 hs2 r2 => Ok.bind (sopd_ok hs2 (r1.more e2)) fun e3 u u' s3 σ3 hs3 r3 => Ok.bind (sopd_ok hs3 (r2.more e3)) fun e4 v v' s4 σ4 hs4 r4 => ?_
    refine Ok.now hs4 fun t e => ?_
    obtain ⟨w, h1, h2⟩ := pwr_ok hs4 (vs := [u', v']) (show DenL _ [u, v] [u', v'] from ⟨r3.more e4, r4, trivial⟩) e
    have h1 : idxOp u' v' = some w := h1
    exact ⟨.frz w, by rw [bind_def, h1]; rfl, h2⟩
  | .isi T a, ρ, s, σ, hs => by
    rw [ev, sev]
    refine Ok.bind (sev_ok hp a hs) fun e1 x x' s1 σ1 hs1 r1 => Ok.bind (sopd_ok hs1 r1) fun e3 u u' s3 σ3 hs3 r3 => Ok.now hs3 fun t e => ?_
    obtain ⟨w, h1, h2⟩ := pwr_ok hs3 (vs := [u']) (show DenL _ [u] [u'] from ⟨r3, trivial⟩) e
    have h1 : (isiOp T u').map PyData.bool = some w := h1
    cases ht : isiOp T u' with
    | none => rw [ht] at h1; cases h1
    | some b => rw [ht] at h1; cases h1; exact ⟨_, by rw [bind_def]; rfl, h2⟩
  | .blt b es, ρ, s, σ, hs => by
    rw [ev, sev]
    refine Ok.bind (sevs_ok hp es hs) fun e1 x x' s1 σ1 hs1 r1 => Ok.bind (sopds_ok hs1 r1) fun e3 u u' s3 σ3 hs3 r3 => Ok.now hs3 fun t e => ?_
    obtain ⟨w, h1, h2⟩ := pw_ok hs3 r3 e
    exact ⟨w, by rw [h1]; rfl, h2⟩
  | .call f es, ρ, s, σ, hs => by
    rw [ev, sev.eq_def]
    dsimp only
    split
    · rename_i hf
      rw [hf]
      split
      · rename_i i e
        split
        · rename_i hi
          subst hi
          intro b σ1 hb
          -- peek, then the items, then the pick
          change SM.bind (sPeek 0) _ σ = _ at hb
          unfold SM.bind at hb
          cases hpk : sPeek 0 σ with
          | none => rw [hpk] at hb; cases hb
          | some p =>
            obtain ⟨p, σp⟩ := p
            rw [hpk] at hb
            dsimp only at hb
            obtain ⟨x1, a1, s1, g1, g2, g3⟩ := sPeek_ok (i := 0) hs p σp hpk
            cases p with
            | frz _ => cases hb
            | own _ => cases hb
            | slot j =>
              have hj : j = 0 := by
                unfold sPeek at hpk
                split at hpk <;> cases hpk <;> rfl
              subst hj
              cases a1 <;> first | exact g3.elim | skip
              have g3 : 0 = _ := g3
              subst g3
              have key : Ok (ρ ++ x1) s1 σp (do let r ← ev c e; callFn c pk [.slot 0, r] : M Rv) (do let r ← sev c pk e; let v ← sop fun _ => sfz r; spick v) DenR := by
                refine Ok.bind (sev_ok hp e g1) fun e2 r r' s2 σ2 hs2 r2 => ?_
                intro d σ3 hd
                change SM.bind (sop _) _ σ2 = _ at hd
                unfold SM.bind sop at hd
                cases hv : sfz r with
                | none => rw [hv] at hd; cases hd
                | some v =>
                  rw [hv] at hd
                  dsimp only [Option.map] at hd
                  exact spick_ok hp hs2 r2 hv d σ3 hd
              obtain ⟨x2, a2, s2, k1, k2, k3⟩ := key b σ1 hb
              refine ⟨x1 ++ x2, a2, s2, by rw [← List.append_assoc]; exact k1, ?_, by rw [← List.append_assoc]; exact k3⟩
              rw [bind_def]
              show (((ev c (.peek 0) s).andThen fun r => (ev c e >>= fun r2 => (evs c [] >>= fun rs => pure (r2 :: rs)) : M (List Rv)) >>= fun rs => pure (r :: rs) : RE (List Rv))).andThen (fun rs => callFn c pk rs) = _
              rw [show ev c (.peek 0) s = mPeek 0 s by rw [ev], g2, andThen_ok, bind_def, bind_def]
              rw [bind_def] at k2
              obtain ⟨r9, s9, h1, h2⟩ := RE.andThen_inv k2
              rw [h1, andThen_ok]
              exact h2
        · exact Ok.fail
      · exact Ok.fail
    · refine Ok.bind (sevs_ok hp es hs) fun e1 x x' s1 σ1 hs1 r1 => ?_
      intro d σ2 hd
      change SM.bind (sop _) _ σ1 = _ at hd
      unfold SM.bind sop at hd
      cases hv : sfzs x with
      | none => rw [hv] at hd; cases hd
      | some v =>
        rw [hv] at hd
        dsimp only [Option.map] at hd
        obtain ⟨vs, h1, h2⟩ := sfzs_now r1 hv
        refine (Ok.now hs1 fun t e => ?_ : Ok _ s1 σ1 (callFn c f x') (sop fun σ => pw (callR c f) σ.ds v) DenR) d σ2 hd
        obtain ⟨w, h3, h4⟩ := pw_ok hs1 h2 e
        exact ⟨w, callR_fn h1 h3, h4⟩
  | .callG f es, ρ, s, σ, hs => by
    rw [ev, sev]
    split
    · exact Ok.fail
    · refine Ok.bind (sevs_ok hp es hs) fun e1 x x' s1 σ1 hs1 r1 => ?_
      intro d σ2 hd
      change SM.bind (sop _) _ σ1 = _ at hd
      unfold SM.bind sop at hd
      cases hv : sfzs x with
      | none => rw [hv] at hd; cases hd
      | some v =>
        rw [hv] at hd
        dsimp only [Option.map] at hd
        obtain ⟨vs, h1, h2⟩ := sfzs_now r1 hv
        refine (Ok.now hs1 fun t e => ?_ : Ok _ s1 σ1 (callFn c f x') (sop fun σ => pw (callR c f) σ.ds v) DenR) d σ2 hd
        obtain ⟨w, h3, h4⟩ := pw_ok hs1 h2 e
        exact ⟨w, callR_fn h1 h3, h4⟩
  | .callv i es, ρ, s, σ, hs => by
    rw [ev, sev]
    refine Ok.bind (lookFn_ok hs) fun e0 f f' s0 σ0 hs0 r0 => ?_
    cases r0
    refine Ok.bind (sevs_ok hp es hs0) fun e1 x x' s1 σ1 hs1 r1 => Ok.bind (sfzs_ok hs1 r1) fun e3 u u' s3 σ3 hs3 r3 => Ok.now hs3 fun t e => ?_
    obtain ⟨w, h1, h2⟩ := pw_ok hs3 r3 e
    refine ⟨w, ?_, h2⟩
    unfold noX
    rw [callR_x h1]
  | .reprD e, ρ, s, σ, hs => by
    rw [ev, sev]
    refine Ok.bind (sev_ok hp e hs) fun e1 x x' s1 σ1 hs1 r1 => Ok.bind (sopd_ok hs1 r1) fun e3 u u' s3 σ3 hs3 r3 => Ok.now hs3 fun t e => ?_
    obtain ⟨w, h1, h2⟩ := srepr_ok hs3 r3 e
    exact ⟨w, by rw [h1]; rfl, h2⟩
  | .met m d f es, ρ, s, σ, hs => by
    rw [ev, sev]
    refine Ok.bind (sevs_ok hp es hs) fun e1 x x' s1 σ1 hs1 r1 => Ok.bind (sfzs_ok hs1 r1) fun e3 u u' s3 σ3 hs3 r3 => Ok.now hs3 fun t e => ?_
    obtain ⟨w, h1, h2⟩ := pwr_ok hs3 r3 e
    exact ⟨.frz w, metF_ok h1, h2⟩
  | .metv m d i es, ρ, s, σ, hs => by
    rw [ev, sev]
    refine Ok.bind (lookFn_ok hs) fun e0 f f' s0 σ0 hs0 r0 => ?_
    cases r0
    refine Ok.bind (sevs_ok hp es hs0) fun e1 x x' s1 σ1 hs1 r1 => Ok.bind (sfzs_ok hs1 r1) fun e3 u u' s3 σ3 hs3 r3 => Ok.now hs3 fun t e => ?_
    obtain ⟨w, h1, h2⟩ := pwr_ok hs3 r3 e
    exact ⟨.frz w, metF_ok h1, h2⟩
  | .lc own elt tg k its ifs, ρ, s, σ, hs => by
    rw [ev, sev]
    refine Ok.bind (sevs_ok hp its hs) fun e1 x x' s1 σ1 hs1 r1 => Ok.bind (sfzs_ok hs1 r1) fun e2 u u' s2 σ2 hs2 r2 => Ok.bind (R := Ats) (Ok.now hs2 fun t e => ?_) fun e3 ts xs s3 σ3 hs3 r3 => ?_
    · obtain ⟨ys, h1, h2⟩ := sitems_ok r2 e
      exact ⟨ys, by rw [h1]; rfl, h2⟩
    · refine slcAll_ok (fun {ρ s σ} t v hs ht => ?_) hs3 r3
      cases tg with
      | tup _ => exact Ok.fail
      | name j =>
        refine Ok.bind (sstore_ok hs (show DenR ρ (.frz (.dd t)) (.frz v) from ht)) fun e4 _ _ s4 σ4 hs4 _ => ?_
        refine Ok.bind (sevT_ok hp ifs hs4) fun e5 b b' s5 σ5 hs5 r5 => ?_
        cases r5
        refine Ok.ite ?_ (Ok.pure hs5 trivial)
        exact Ok.bind (sev_ok hp elt hs5) fun e6 r r' s6 σ6 hs6 r6 => Ok.bind (sfz_ok hs6 r6) fun e7 q q' s7 σ7 hs7 r7 => Ok.pure hs7 r7
  | .chain _ _ _ _ _, ρ, s, σ, hs => by rw [sev.eq_def]; exact Ok.fail
  | .star _, ρ, s, σ, hs => by rw [sev.eq_def]; exact Ok.fail
  | .slcL _ _, ρ, s, σ, hs => by rw [sev.eq_def]; exact Ok.fail
  | .slcH _ _, ρ, s, σ, hs => by rw [sev.eq_def]; exact Ok.fail
  | .slcLH _ _ _, ρ, s, σ, hs => by rw [sev.eq_def]; exact Ok.fail
  | .lrng _, ρ, s, σ, hs => by rw [sev.eq_def]; exact Ok.fail
  | .mth _ _ _, ρ, s, σ, hs => by rw [sev.eq_def]; exact Ok.fail
  | .rev _, ρ, s, σ, hs => by rw [sev.eq_def]; exact Ok.fail
  | .lens _, ρ, s, σ, hs => by rw [sev.eq_def]; exact Ok.fail
  | .dc _ _ _ _ _ _ _, ρ, s, σ, hs => by rw [sev.eq_def]; exact Ok.fail
  | .lc2 _ _ _ _ _ _ _ _ _ _, ρ, s, σ, hs => by rw [sev.eq_def]; exact Ok.fail
  | .sortK _ _ _ _, ρ, s, σ, hs => by rw [sev.eq_def]; exact Ok.fail
  | .bestK _ _ _ _, ρ, s, σ, hs => by rw [sev.eq_def]; exact Ok.fail
  | .dcE _ _ _, ρ, s, σ, hs => by rw [sev.eq_def]; exact Ok.fail
theorem sevB_ok (hp : PickOk c pk) (op : BoolOp) : ∀ (es : List E) {ρ : List Nat} {s : Env} {σ : SSt}, St ρ σ s → Ok ρ s σ (evB c op es) (sevB c pk op es) DenR
  | [], ρ, s, σ, hs => by rw [sevB]; exact Ok.fail
  | [e], ρ, s, σ, hs => by
    rw [evB, sevB]
    exact Ok.bind (sev_ok hp e hs) fun e1 x x' s1 σ1 hs1 r1 => Ok.bind (sfz_ok hs1 r1) fun e2 y y' s2 σ2 hs2 r2 => Ok.pure hs2 r2
  | e :: e2 :: es, ρ, s, σ, hs => by
    rw [evB, sevB]
    · refine Ok.bind (sev_ok hp e hs) fun e1 x x' s1 σ1 hs1 r1 => Ok.bind (sopd_ok hs1 r1) fun e2 y y' s2 σ2 hs2 r2 => ?_
      intro d σ3 hd
      change SM.bind (sop _) _ σ2 = _ at hd
      unfold SM.bind sop at hd
      cases hv : sbool y with
      | none => rw [hv] at hd; cases hd
      | some b =>
        rw [hv] at hd
        dsimp only [Option.map] at hd
        have hb := sbool_ok r2 hv
        subst hb
        cases b <;> cases op
        · exact Ok.pure hs2 (R := DenR) (b := SRv.frz (.dd (.leaf (.bool false)))) (a := Rv.frz (.bool false)) den_leaf d σ3 hd
        · exact sevB_ok hp .Or (_ :: es) hs2 d σ3 hd
        · exact sevB_ok hp .And (_ :: es) hs2 d σ3 hd
        · exact Ok.pure hs2 (R := DenR) (b := SRv.frz (.dd (.leaf (.bool true)))) (a := Rv.frz (.bool true)) den_leaf d σ3 hd
    · intro z; cases z
    · intro z; cases z
theorem sevs_ok (hp : PickOk c pk) : ∀ (es : List E) {ρ : List Nat} {s : Env} {σ : SSt}, St ρ σ s → Ok ρ s σ (evs c es) (sevs c pk es) DenRs
  | [], ρ, s, σ, hs => by rw [evs, sevs]; exact Ok.pure hs trivial
  | e :: es, ρ, s, σ, hs => by
    rw [evs, sevs]
    exact Ok.bind (sev_ok hp e hs) fun e1 x x' s1 σ1 hs1 r1 => Ok.bind (sevs_ok hp es hs1) fun e2 y y' s2 σ2 hs2 r2 => Ok.pure hs2 ⟨r1.more e2, r2⟩
theorem sevA_ok (hp : PickOk c pk) : ∀ (es : List E) {ρ : List Nat} {s : Env} {σ : SSt}, St ρ σ s → Ok ρ s σ (evA c es) (sevA c pk es) DenRs
  | [], ρ, s, σ, hs => by rw [evA, sevA]; exact Ok.pure hs trivial
  | e :: es, ρ, s, σ, hs => by
    rw [sevA.eq_def]
    dsimp only
    split
    · exact Ok.fail
    · rename_i hn
      rw [evA]
      · exact Ok.bind (sev_ok hp e hs) fun e1 x x' s1 σ1 hs1 r1 => Ok.bind (sfz_ok hs1 r1) fun e2 y y' s2 σ2 hs2 r2 => Ok.bind (sevA_ok hp es hs2) fun e3 z z' s3 σ3 hs3 r3 => Ok.pure hs3 ⟨r2.more e3, r3⟩
      · exact hn
theorem sevT_ok (hp : PickOk c pk) : ∀ (es : List E) {ρ : List Nat} {s : Env} {σ : SSt}, St ρ σ s → Ok ρ s σ (evT c es) (sevT c pk es) (fun _ b a => b = a)
  | [], ρ, s, σ, hs => by rw [evT, sevT]; exact Ok.pure hs rfl
  | e :: es, ρ, s, σ, hs => by
    rw [evT, sevT]
    refine Ok.bind (sev_ok hp e hs) fun e1 x x' s1 σ1 hs1 r1 => Ok.bind (sopd_ok hs1 r1) fun e3 u u' s3 σ3 hs3 r3 => Ok.bind (R := fun _ b a => b = a) (Ok.now hs3 fun k e => ⟨k, by rw [struth_ok r3 e]; rfl, rfl⟩) fun e4 k k' s4 σ4 hs4 r4 => ?_
    cases r4
    exact Ok.ite (sevT_ok hp es hs4) (Ok.pure hs4 rfl)
end
end
end Ev

/-! EvS5: statements over trees; a def that draws. -/
namespace Ev
open PySem
inductive SFlow where
  | next | brk | cont | ret (r : SRv)
def DenF (ρ : List Nat) : SFlow → Flow → Prop
  | .next, .next => True
  | .brk, .brk => True
  | .cont, .cont => True
  | .ret r, .ret q => DenR ρ r q
  | _, _ => False
def sfor {α : Type} (step : α → SM SFlow) : List α → SM SFlow
  | [] => pure .next
  | x :: xs => do
    let f ← step x
    match f with
    | .next => sfor step xs
    | .cont => sfor step xs
    | .brk => pure .next
    | .ret r => pure (.ret r)
def sstoreFn (i f : Nat) : SM Unit := fun σ => match σ.env[i]? with
  | some .crk => none
  | none => none
  | some _ => some ((), ⟨σ.ds, σ.env.set i (.fn f)⟩)
def sstoreAll : List Nat → List SRv → SM Unit
  | [], [] => pure ()
  | i :: is, r :: rs => do sstoreAll is rs; sstore i r
  | _, _ => SM.fail
/-- the list that a name holds -/
def sown (i : Nat) : SSt → Option (List DD) := fun σ => match σ.env[i]? with
  | some (.own (.sq false ts)) => some ts
  | _ => none
def sapp (i : Nat) (v : SV) : SM SFlow := fun σ => match sown i σ, toD σ.ds v with
  | some ts, some t => if ts.length < lim then some (.next, ⟨σ.ds, σ.env.set i (.own (.sq false (ts ++ [t])))⟩) else none
  | _, _ => none
def sevPar (c : Cf) (pk : Nat) : List E → SM (List SRv)
  | [] => pure []
  | e :: es => do
    let r ← sev c pk e
    let _ ← sop fun _ => sfz r
    let rs ← sevPar c pk es
    pure (r :: rs)
mutual
def sevS (c : Cf) (pk : Nat) : S → SM SFlow
  | .pass => pure .next
  | .ex e => do let _ ← sev c pk e; pure .next
  | .asg (.name i) e => do let r ← sev c pk e; sstore i r; pure .next
  | .par ts es => do let rs ← sevPar c pk es; sstoreAll ts rs; pure .next
  | .mut .append i [e] => do let _ ← sop (sown i); let r ← sev c pk e; let v ← sop fun _ => sfz r; sapp i v
  | .ret e => do let r ← sev c pk e; let _ ← sop fun _ => sfz r; pure (.ret r)
  | .retN => pure (.ret (.frz (.dd (.leaf .none))))
  | .ite t a b => do let x ← sev c pk t; let u ← sop (sopd x); let k ← sop fun _ => struth u; if k then sevSs c pk a else sevSs c pk b
  | .loop (.name j) k its body => do
    let rs ← sevs c pk its; let vs ← sop fun _ => sfzs rs; let ts ← sop fun _ => sitems k vs
    sfor (fun t => do sstore j (.frz (.dd t)); sevSs c pk body) ts
  | .loopF i fs body => sfor (fun f => do sstoreFn i f; sevSs c pk body) fs
  | .brk => pure .brk
  | .cont => pure .cont
  | _ => SM.fail
def sevSs (c : Cf) (pk : Nat) : List S → SM SFlow
  | [] => pure .next
  | s :: ss => do
    let f ← sevS c pk s
    match f with
    | .next => sevSs c pk ss
    | .brk => pure .brk
    | .cont => pure .cont
    | .ret r => pure (.ret r)
end
section
variable {c : Cf} {pk : Nat}
theorem sstoreFn_ok {ρ : List Nat} {s : Env} {σ : SSt} {i f : Nat} (hs : St ρ σ s) : Ok ρ s σ (storeFn i f) (sstoreFn i f) (fun _ _ _ => True) := by
  refine Ok.step fun b σ' e => ?_
  unfold sstoreFn at e
  split at e
  · cases e
  · cases e
  · rename_i x hc hg
    obtain ⟨z, h1, h2⟩ := hs.2.2.get hg
    cases e
    refine ⟨(), _, hs.set (x := .fn f) (y := .fn f) rfl, ?_, trivial⟩
    unfold storeFn
    rw [h1]
    cases z with
    | io e => cases x <;> first | exact h2.elim | exact (hc rfl).elim
    | _ => rfl
theorem sstoreAll_ok : ∀ {is : List Nat} {xs : List SRv} {rs : List Rv} {ρ : List Nat} {s : Env} {σ : SSt}, St ρ σ s → DenRs ρ xs rs → Ok ρ s σ (storeAll is rs) (sstoreAll is xs) (fun _ _ _ => True)
  | [], [], [], ρ, s, σ, hs, _ => by rw [storeAll, sstoreAll]; exact Ok.pure hs trivial
  | i :: is, x :: xs, r :: rs, ρ, s, σ, hs, h => by
    rw [storeAll, sstoreAll]
    exact Ok.bind (sstoreAll_ok hs h.2) fun e1 _ _ s1 σ1 hs1 _ => sstore_ok hs1 (h.1.more e1)
  | [], _ :: _, _, ρ, s, σ, hs, h => by rw [sstoreAll.eq_def]; exact Ok.fail
  | _ :: _, [], _, ρ, s, σ, hs, h => by rw [sstoreAll.eq_def]; exact Ok.fail
  | [], [], _ :: _, _, _, _, _, h => h.elim
  | _ :: _, _ :: _, [], _, _, _, _, h => h.elim
theorem sevPar_ok (hp : PickOk c pk) : ∀ {es : List E} {ρ : List Nat} {s : Env} {σ : SSt}, St ρ σ s → Ok ρ s σ (evPar c es) (sevPar c pk es) DenRs
  | [], ρ, s, σ, hs => by rw [evPar, sevPar]; exact Ok.pure hs trivial
  | e :: es, ρ, s, σ, hs => by
    rw [evPar, sevPar]
    refine Ok.bind (sev_ok hp e hs) fun e1 x x' s1 σ1 hs1 r1 => ?_
    intro d σ3 hd
    change SM.bind (sop _) _ σ1 = _ at hd
    unfold SM.bind sop at hd
    cases hv : sfz x with
    | none => rw [hv] at hd; cases hd
    | some v =>
      rw [hv] at hd
      dsimp only [Option.map] at hd
      cases x with
      | slot _ => cases hv
      | frz y =>
        cases x' <;> first | exact r1.elim | skip
        rename_i w
        exact (Ok.bind (R' := DenRs) (sevPar_ok hp hs1) fun e2 z z' s2 σ2 hs2 r2 => Ok.pure hs2 (show DenRs _ (SRv.frz y :: z) (Rv.frz w :: z') from ⟨r1.more e2, r2⟩)) d σ3 hd
      | own y =>
        cases x' <;> first | exact r1.elim | skip
        rename_i w
        exact (Ok.bind (R' := DenRs) (sevPar_ok hp hs1) fun e2 z z' s2 σ2 hs2 r2 => Ok.pure hs2 (show DenRs _ (SRv.own y :: z) (Rv.own w :: z') from ⟨r1.more e2, r2⟩)) d σ3 hd
theorem sfor_ok {step : PV → M Flow} {st : DD → SM SFlow} (H : ∀ {ρ : List Nat} {s : Env} {σ : SSt} (t : DD) (v : PV), St ρ σ s → t.at ρ = some v → Ok ρ s σ (step v) (st t) DenF) :
    ∀ {ts : List DD} {xs : List PV} {ρ : List Nat} {s : Env} {σ : SSt}, St ρ σ s → Ats ρ ts xs → Ok ρ s σ (forLoop step xs) (sfor st ts) DenF
  | [], [], ρ, s, σ, hs, _ => Ok.pure hs trivial
  | [], _ :: _, _, _, _, _, h => h.elim
  | _ :: _, [], _, _, _, _, h => h.elim
  | t :: ts, x :: xs, ρ, s, σ, hs, h => by
    refine Ok.bind (H t x hs h.1) fun e1 b a s1 σ1 hs1 hr => ?_
    cases b <;> cases a <;> first | exact hr.elim | skip
    · exact sfor_ok H hs1 (h.2.more e1)
    · exact Ok.pure hs1 trivial
    · exact sfor_ok H hs1 (h.2.more e1)
    · exact Ok.pure hs1 hr
theorem sfn_ok {step : Nat → M Flow} {st : Nat → SM SFlow} (H : ∀ {ρ : List Nat} {s : Env} {σ : SSt} (f : Nat), St ρ σ s → Ok ρ s σ (step f) (st f) DenF) :
    ∀ {fs : List Nat} {ρ : List Nat} {s : Env} {σ : SSt}, St ρ σ s → Ok ρ s σ (fnLoop step fs) (sfor st fs) DenF
  | [], ρ, s, σ, hs => Ok.pure hs trivial
  | f :: fs, ρ, s, σ, hs => by
    refine Ok.bind (H f hs) fun e1 b a s1 σ1 hs1 hr => ?_
    cases b <;> cases a <;> first | exact hr.elim | skip
    · exact sfn_ok H hs1
    · exact Ok.pure hs1 trivial
    · exact sfn_ok H hs1
    · exact Ok.pure hs1 hr
theorem sown_now {ρ : List Nat} {s : Env} {σ : SSt} {i : Nat} {ts : List DD} (hs : St ρ σ s) (e : sown i σ = some ts) : ∃ vs, s[i]? = some (.own (.list vs)) ∧ ownVal i s = .ok (.list vs) s ∧ Ats ρ ts vs := by
  unfold sown at e
  split at e
  · rename_i us h
    cases e
    obtain ⟨y, h1, h2⟩ := hs.2.2.get h
    cases y <;> first | exact h2.elim | skip
    obtain ⟨vs, rfl, h3⟩ := h2
    refine ⟨vs, h1, ?_, h3⟩
    unfold ownVal
    rw [h1]; rfl
  · cases e
mutual
theorem sevS_ok (hp : PickOk c pk) : ∀ (st : S) {ρ : List Nat} {s : Env} {σ : SSt}, St ρ σ s → Ok ρ s σ (evS c st) (sevS c pk st) DenF
  | .pass, ρ, s, σ, hs => by rw [evS, sevS]; exact Ok.pure hs trivial
  | .brk, ρ, s, σ, hs => by rw [evS, sevS]; exact Ok.pure hs trivial
  | .cont, ρ, s, σ, hs => by rw [evS, sevS]; exact Ok.pure hs trivial
  | .retN, ρ, s, σ, hs => by rw [evS, sevS]; exact Ok.pure hs (show DenF ρ _ _ from den_leaf)
  | .ex e, ρ, s, σ, hs => by
    rw [evS, sevS]
    exact Ok.bind (sev_ok hp e hs) fun e1 x x' s1 σ1 hs1 r1 => Ok.pure hs1 trivial
  | .asg (.name i) e, ρ, s, σ, hs => by
    rw [evS, sevS]
    exact Ok.bind (sev_ok hp e hs) fun e1 x x' s1 σ1 hs1 r1 => Ok.bind (sstore_ok hs1 r1) fun e2 _ _ s2 σ2 hs2 _ => Ok.pure hs2 trivial
  | .asg (.tup ts) e, ρ, s, σ, hs => by rw [sevS.eq_def]; exact Ok.fail
  | .par ts es, ρ, s, σ, hs => by
    rw [evS, sevS]
    exact Ok.bind (sevPar_ok hp hs) fun e1 x x' s1 σ1 hs1 r1 => Ok.bind (sstoreAll_ok hs1 r1) fun e2 _ _ s2 σ2 hs2 _ => Ok.pure hs2 trivial
  | .mut m i es, ρ, s, σ, hs => by
    rw [sevS.eq_def]
    cases m with
    | extend => exact Ok.fail
    | append =>
      cases es with
      | nil => exact Ok.fail
      | cons e es =>
        cases es with
        | cons _ _ => exact Ok.fail
        | nil =>
          dsimp only
          rw [evS]
          intro d σ1 hd
          change SM.bind (sop (sown i)) _ σ = _ at hd
          unfold SM.bind sop at hd
          cases ho : sown i σ with
          | none => rw [ho] at hd; cases hd
          | some ts0 =>
            rw [ho] at hd
            dsimp only [Option.map] at hd
            obtain ⟨vs0, g1, g2, g3⟩ := sown_now hs ho
            have key : Ok ρ s σ (do
                let rs ← evs c [e]; let vs ← fzs rs
                let u ← ownVal i
                let w ← M.opt (muOp .append u vs)
                setSlot i w; Pure.pure Flow.next : M Flow) (do let r ← sev c pk e; let v ← sop fun _ => sfz r; sapp i v) DenF := by
              have e1 : (do
                let rs ← evs c [e]; let vs ← fzs rs
                let u ← ownVal i
                let w ← M.opt (muOp .append u vs)
                setSlot i w; Pure.pure Flow.next : M Flow) = (do
                let r ← ev c e
                (do let vs ← fzs [r]
                    let u ← ownVal i
                    let w ← M.opt (muOp .append u vs)
                    setSlot i w; Pure.pure Flow.next : M Flow)) := by
                funext s'
                rw [bind_def, bind_def]
                show ((ev c e s').andThen fun r => evs c [] >>= fun rs => Pure.pure (r :: rs)).andThen _ = _
                cases ev c e s' with
                | ok a t =>
                  rw [andThen_ok, andThen_ok]
                  show (((evs c [] t).andThen fun rs => Pure.pure (a :: rs)).andThen _ : RE Flow) = _
                  rw [show evs c [] t = .ok [] t by rw [evs]; rfl, andThen_ok]
                  rfl
                | exc _ _ => rfl
                | stuck => rfl
              rw [e1]
              refine Ok.bind (sev_ok hp e hs) fun e1 x x' s1 σ1 hs1 r1 => ?_
              intro d σ2 hd
              change SM.bind (sop _) _ σ1 = _ at hd
              unfold SM.bind sop at hd
              cases hv : sfz x with
              | none => rw [hv] at hd; cases hd
              | some v =>
                rw [hv] at hd
                dsimp only [Option.map] at hd
                obtain ⟨w, h1, h2⟩ := sfz_now r1 hv
                unfold sapp at hd
                split at hd
                · rename_i ts t ho2 ht
                  split at hd
                  · rename_i hl
                    cases hd
                    obtain ⟨vs, q1, q2, q3⟩ := sown_now hs1 ho2
                    have h3 := toD_ok hs1 h2 ht
                    rw [q3.len] at hl
                    have h4 : Den (ρ ++ e1) (.sq false (ts ++ [t])) (.list (vs ++ [w])) := ⟨vs ++ [w], rfl, q3.app ⟨h3, trivial⟩⟩
                    have h5 := hs1.set (i := i) (x := .own (.sq false (ts ++ [t]))) (y := .own (.list (vs ++ [w]))) h4
                    refine ⟨[], .next, s1.set i (.own (.list (vs ++ [w]))), by rw [List.append_nil]; exact h5, ?_, trivial⟩
                    have f1 : fzs [x'] s1 = .ok [w] s1 := by
                      show (do let v ← fz x'; let vs ← fzs []; Pure.pure (v :: vs) : M (List PV)) s1 = _
                      rw [bind_def, h1, andThen_ok]; rfl
                    rw [bind_def, f1, andThen_ok, bind_def, q2, andThen_ok, bind_def]
                    rw [show muOp .append (.list vs) [w] = some (.list (vs ++ [w])) from if_pos hl, opt_some, andThen_ok, bind_def]
                    have f2 : setSlot i (.list (vs ++ [w])) s1 = .ok () (s1.set i (.own (.list (vs ++ [w])))) := by unfold setSlot; rw [q1]
                    rw [f2, andThen_ok]; rfl
                  · cases hd
                · cases hd
            obtain ⟨ext, a, s', k1, k2, k3⟩ := key d σ1 hd
            refine ⟨ext, a, s', k1, ?_, k3⟩
            rw [bind_def, g2, andThen_ok]
            exact k2
  | .ret e, ρ, s, σ, hs => by
    rw [evS, sevS]
    refine Ok.bind (sev_ok hp e hs) fun e1 x x' s1 σ1 hs1 r1 => ?_
    intro d σ3 hd
    change SM.bind (sop _) _ σ1 = _ at hd
    unfold SM.bind sop at hd
    cases hv : sfz x with
    | none => rw [hv] at hd; cases hd
    | some v =>
      rw [hv] at hd
      dsimp only [Option.map] at hd
      cases x with
      | slot _ => cases hv
      | frz y =>
        cases x' <;> first | exact r1.elim | skip
        rename_i w
        exact (Ok.pure hs1 (show DenF _ (.ret (.frz y)) (.ret (.frz w)) from r1)) d σ3 hd
      | own y =>
        cases x' <;> first | exact r1.elim | skip
        rename_i w
        exact (Ok.pure hs1 (show DenF _ (.ret (.own y)) (.ret (.own w)) from r1)) d σ3 hd
  | .ite t a b, ρ, s, σ, hs => by
    rw [evS, sevS]
    refine Ok.bind (sev_ok hp t hs) fun e1 x x' s1 σ1 hs1 r1 => Ok.bind (sopd_ok hs1 r1) fun e3 u u' s3 σ3 hs3 r3 => Ok.bind (R := fun _ b a => b = a) (Ok.now hs3 fun k e => ⟨k, by rw [struth_ok r3 e]; rfl, rfl⟩) fun e4 k k' s4 σ4 hs4 r4 => ?_
    cases r4
    exact Ok.ite (sevSs_ok hp a hs4) (sevSs_ok hp b hs4)
  | .loop (.name j) k its body, ρ, s, σ, hs => by
    rw [evS, sevS]
    refine Ok.bind (sevs_ok hp its hs) fun e1 x x' s1 σ1 hs1 r1 => Ok.bind (sfzs_ok hs1 r1) fun e2 u u' s2 σ2 hs2 r2 => Ok.bind (R := Ats) (Ok.now hs2 fun t e => ?_) fun e3 ts xs s3 σ3 hs3 r3 => ?_
    · obtain ⟨ys, h1, h2⟩ := sitems_ok r2 e
      exact ⟨ys, by rw [h1]; rfl, h2⟩
    · refine sfor_ok (fun {ρ s σ} t v hs ht => ?_) hs3 r3
      exact Ok.bind (sstore_ok hs (show DenR ρ (.frz (.dd t)) (.frz v) from ht)) fun e4 _ _ s4 σ4 hs4 _ => sevSs_ok hp body hs4
  | .loop (.tup _) k its body, ρ, s, σ, hs => by rw [sevS.eq_def]; exact Ok.fail
  | .loopF i fs body, ρ, s, σ, hs => by
    rw [evS, sevS]
    refine sfn_ok (fun {ρ s σ} f hs => ?_) hs
    exact Ok.bind (sstoreFn_ok hs) fun e4 _ _ s4 σ4 hs4 _ => sevSs_ok hp body hs4
  | .aug _ _ _, ρ, s, σ, hs => by rw [sevS.eq_def]; exact Ok.fail
  | .seti _ _ _, ρ, s, σ, hs => by rw [sevS.eq_def]; exact Ok.fail
  | .augI _ _ _ _, ρ, s, σ, hs => by rw [sevS.eq_def]; exact Ok.fail
  | .whl _ _, ρ, s, σ, hs => by rw [sevS.eq_def]; exact Ok.fail
  | .never, ρ, s, σ, hs => by rw [sevS.eq_def]; exact Ok.fail
  | .raise _ _, ρ, s, σ, hs => by rw [sevS.eq_def]; exact Ok.fail
  | .exX _ _, ρ, s, σ, hs => by rw [sevS.eq_def]; exact Ok.fail
  | .retX _ _, ρ, s, σ, hs => by rw [sevS.eq_def]; exact Ok.fail
  | .retXA _ _ _ _, ρ, s, σ, hs => by rw [sevS.eq_def]; exact Ok.fail
  | .subs _ _, ρ, s, σ, hs => by rw [sevS.eq_def]; exact Ok.fail
  | .asgX _ _ _, ρ, s, σ, hs => by rw [sevS.eq_def]; exact Ok.fail
  | .popA _ _, ρ, s, σ, hs => by rw [sevS.eq_def]; exact Ok.fail
  | .subN _ _ _ _, ρ, s, σ, hs => by rw [sevS.eq_def]; exact Ok.fail
theorem sevSs_ok (hp : PickOk c pk) : ∀ (ss : List S) {ρ : List Nat} {s : Env} {σ : SSt}, St ρ σ s → Ok ρ s σ (evSs c ss) (sevSs c pk ss) DenF
  | [], ρ, s, σ, hs => by rw [evSs, sevSs]; exact Ok.pure hs trivial
  | st :: ss, ρ, s, σ, hs => by
    rw [evSs, sevSs]
    refine Ok.bind (sevS_ok hp st hs) fun e1 b a s1 σ1 hs1 hr => ?_
    cases b <;> cases a <;> first | exact hr.elim | skip
    · exact sevSs_ok hp ss hs1
    · exact Ok.pure hs1 trivial
    · exact Ok.pure hs1 trivial
    · exact Ok.pure hs1 hr
end
/-- a def of one crock that tells True, whatever is drawn -/
def sTrue (c : Cf) (pk : Nat) (d : Def) : Bool := match sevSs c pk d.body ⟨[], .crk :: List.replicate (d.N.length - 1) .emp⟩ with
  | some (.ret (.frz (.dd (.leaf (.bool b)))), σ) => b && (match σ.env with | .crk :: _ => true | _ => false)
  | _ => false
theorem envD_emp {ρ : List Nat} : ∀ n : Nat, EnvD ρ (List.replicate n .emp) (List.replicate n .emp)
  | 0 => trivial
  | n + 1 => ⟨trivial, envD_emp n⟩
theorem sTrue_ok (hp : PickOk c pk) {d : Def} (h1 : d.np = 1) (h2 : d.lent = [0]) (h3 : 1 ≤ d.N.length) (h : sTrue c pk d = true) (e : PV) (he : Ew3 e) : ∃ e', Ew3 e' ∧ runDef c d [e] = some (.frz (.bool true), [e']) := by
  unfold sTrue at h
  have hst : d.start [e] = .io e :: List.replicate (d.N.length - 1) .emp := by
    unfold Def.start
    rw [h2]; rfl
  have hs : St [] ⟨[], .crk :: List.replicate (d.N.length - 1) .emp⟩ (d.start [e]) := ⟨rfl, fun j n hj => by simp at hj, by rw [hst]; exact ⟨he, envD_emp _⟩⟩
  split at h
  · rename_i b σ hq
    rw [Bool.and_eq_true] at h
    obtain ⟨hb, hc⟩ := h
    subst hb
    obtain ⟨ext, a, s', k1, k2, k3⟩ := sevSs_ok hp d.body hs _ _ hq
    cases a <;> first | exact k3.elim | skip
    rename_i r
    cases r <;> first | exact (show False from k3).elim | skip
    rename_i v
    have k3 : Den ([] ++ ext) (.dd (.leaf (.bool true))) v := k3
    have := den_leaf_eq k3
    subst this
    split at hc
    · rename_i xs hx
      have k4 := k1.2.2
      rw [hx] at k4
      cases s' with
      | nil => exact k4.elim
      | cons y ys =>
        cases y <;> first | exact k4.1.elim | skip
        rename_i e'
        refine ⟨e', k4.1, ?_⟩
        unfold runDef
        rw [if_pos ⟨by rw [h1]; rfl, by rw [h1]; exact h3⟩, k2]
        dsimp only
        rw [h2]; rfl
    · cases hc
  · cases h
end
end Ev

/-! EvF: a law that goes through its cells and asks the same of each. -/
namespace Ev
open PySem
theorem lent1 {c : Cf} {f i : Nat} {e e' v : PV} {s : Env} (hl : c.lent f = [0]) (hs : s[i]? = some (.own e)) (hr : c.Φ f [e] = some (.frz v, [e'])) : callFn c f [.slot i] s = .ok (.frz v) (s.set i (.own e')) := by
  unfold callFn
  have p : passArgs (c.lent f) 0 [.slot i] s = .ok ([e], [i]) s := by
    rw [hl]
    show (do let p ← passOne [0] 0 (.slot i); let q ← passArgs [0] 1 []; Pure.pure (p.1 :: q.1, p.2 ++ q.2) : M (List PV × List Nat)) s = _
    have p1 : passOne [0] 0 (.slot i) s = .ok (e, [i]) s := by
      unfold passOne
      rw [if_pos (by decide)]
      dsimp only
      rw [hs]
    rw [bind_def, p1, andThen_ok]; rfl
  rw [bind_def, p, andThen_ok]
  dsimp only
  rw [if_pos (by simp), bind_def, hr, opt_some, andThen_ok]
  have g : giveBack [i] [e'] s = .ok () (s.set i (.own e')) := by
    show (match s[i]? with
      | some (Slot.own _) => giveBack [] [] (s.set i (.own e'))
      | some (Slot.io _) => giveBack [] [] (s.set i (.io e'))
      | _ => .stuck : RE Unit) = _
    rw [hs]; rfl
  show (giveBack [i] [e'] s).andThen _ = _
  rw [g]; rfl
def cellLoop (K CR R : Nat) : S := .loop (.name 1) .rng [.blt .max2 [.cint 1, .blt .min2 [.cint (K : Nat), .blt .len [.peek 0]]]] [.asg (.name 2) (.call CR [.var 0, .var 1]), .ite (.bop .Or [.not (.callG R [.peek 2]), .not (.callG R [.peek 2])]) [.ret (.cbl false)] []]
theorem cell_turn {c : Cf} {CR R k : Nat} {ns : List Int} {y1 y2 : Slot} {rest : Env} (h1 : isIo y1 = false) (h2 : isIo y2 = false) (hc : c.lent CR = []) (hr : c.lent R = [0])
    (hC : ∀ k : Nat, ∃ e, Ew e ∧ c.Φ CR [scriptV ns, .int k] = some (.own e, [])) (hR : ∀ e, Ew e → ∃ e', Ew e' ∧ c.Φ R [e] = some (.frz (.bool true), [e'])) :
    ∃ e, turn c (.name 1) [.asg (.name 2) (.call CR [.var 0, .var 1]), .ite (.bop .Or [.not (.callG R [.peek 2]), .not (.callG R [.peek 2])]) [.ret (.cbl false)] []] (.int (k : Nat)) (.frz (scriptV ns) :: y1 :: y2 :: rest) = .ok .next (.frz (scriptV ns) :: .frz (.int (k : Nat)) :: .own e :: rest) := by
  obtain ⟨e, w, hk⟩ := hC k
  obtain ⟨e1, w1, r1⟩ := hR e w
  obtain ⟨e2, w2, r2⟩ := hR e1 w1
  refine ⟨e2, ?_⟩
  rw [x_fturn, x_bindN, x_storeF (i := 1) (y := y1) rfl h1, thn_ok, x_ss1, x_sAsg, x_call]
  have a1 : evs c [.var 0, .var 1] ((Slot.frz (scriptV ns) :: y1 :: y2 :: rest).set 1 (.frz (.int (k : Nat)))) = .ok [.frz (scriptV ns), .frz (.int (k : Nat))] (.frz (scriptV ns) :: .frz (.int (k : Nat)) :: y2 :: rest) := rfl
  rw [a1, thn_ok]
  have a2 : callFn c CR [.frz (scriptV ns), .frz (.int (k : Nat))] (.frz (scriptV ns) :: .frz (.int (k : Nat)) :: y2 :: rest) = .ok (.own e) _ := callR_fn (vs := [scriptV ns, .int (k : Nat)]) (fun _ => rfl) (by unfold callR; rw [if_pos hc, hk])
  rw [a2, thn_ok, x_storeO (i := 2) (y := y2) rfl h2, thn_ok, thn_ok]
  dsimp only
  rw [x_ss1, x_sIte, x_bop, x_or]
  have b1 : ∀ {e e' : PV} {s : Env}, s[2]? = some (.own e) → c.Φ R [e] = some (.frz (.bool true), [e']) → ev c (.not (.callG R [.peek 2])) s = .ok (.frz (.bool false)) (s.set 2 (.own e')) := fun {e e' s} hs hr' => by
    rw [x_not, x_callG]
    have : evs c [.peek 2] s = .ok [.slot 2] s := by
      show (mPeek 2 s).andThen _ = _
      have : mPeek 2 s = .ok (.slot 2) s := by unfold mPeek; rw [hs]
      rw [this]; rfl
    rw [this, thn_ok, lent1 hr hs hr', thn_ok]
    rfl
  rw [b1 rfl r1, thn_ok, show opd (.frz (.bool false)) = pure (.bool false) from rfl, pure_def, thn_ok]
  dsimp only
  rw [x_evB1, b1 rfl r2, thn_ok]
  rfl
theorem law_cells {c : Cf} {K CR R pk : Nat} {ns : List Int} {d : Def} {rest : List S} (hK1 : 1 ≤ K) (hK : K ≤ 63) (hb : d.body = cellLoop K CR R :: rest) (hnp : d.np = 1) (hle : d.lent = []) (hN : 3 ≤ d.N.length) (hp : PickOk c pk) (hc : c.lent CR = []) (hr : c.lent R = [0])
    (hC : ∀ k : Nat, ∃ e, Ew e ∧ c.Φ CR [scriptV ns, .int k] = some (.own e, [])) (hR : ∀ e, Ew e → ∃ e', Ew e' ∧ c.Φ R [e] = some (.frz (.bool true), [e']))
    (hF : (match sevSs c pk rest ⟨[], .any :: .any :: .any :: List.replicate (d.N.length - 3) .emp⟩ with | some (.ret (.frz (.dd (.leaf (.bool b)))), _) => b | _ => false) = true) (hns : ns.length ≤ 63) :
    runDef c d [scriptV ns] = some (.frz (.bool true), []) := by
  have hst : d.start [scriptV ns] = .frz (scriptV ns) :: .emp :: .emp :: List.replicate (d.N.length - 3) .emp := by
    unfold Def.start
    rw [hle]
    show (Slot.frz (scriptV ns) :: List.replicate (d.N.length - 1) .emp) = _
    obtain ⟨n, hn⟩ : ∃ n, d.N.length = n + 3 := ⟨d.N.length - 3, by omega⟩
    rw [hn]; rfl
  -- the loop
  obtain ⟨m, hm1, hm2⟩ : ∃ m : Nat, (if (1 : Int) < (if (ns.length : Int) < (K : Nat) then (ns.length : Int) else (K : Nat)) then (if (ns.length : Int) < (K : Nat) then (ns.length : Int) else (K : Nat)) else 1) = (m : Nat) ∧ m ≤ 63 := by
    by_cases h : (ns.length : Int) < (K : Nat)
    · rw [if_pos h]
      by_cases g : (1 : Int) < ns.length
      · rw [if_pos g]; exact ⟨_, rfl, hns⟩
      · rw [if_neg g]; exact ⟨1, rfl, by omega⟩
    · rw [if_neg h]
      by_cases g : (1 : Int) < (K : Nat)
      · rw [if_pos g]; exact ⟨_, rfl, hK⟩
      · rw [if_neg g]; exact ⟨1, rfl, by omega⟩
  have its : ∀ s : Env, s[0]? = some (.frz (scriptV ns)) → evs c [.blt .max2 [.cint 1, .blt .min2 [.cint (K : Nat), .blt .len [.peek 0]]]] s = .ok [.frz (.int (m : Nat))] s := fun s h0 => by
    have p0 : mPeek 0 s = .ok (.frz (scriptV ns)) s := by unfold mPeek; rw [h0]
    have p1 : ev c (.blt .len [.peek 0]) s = .ok (.frz (.int (ns.length : Nat))) s := by
      show ((((mPeek 0 s).andThen fun r => evs c [] >>= fun rs => Pure.pure (r :: rs)) : RE (List Rv)).andThen fun rs => opds rs >>= fun vs => M.opt (bltOp .len vs)) = _
      rw [p0]
      show (M.opt (bltOp .len [scriptV ns]) s) = _
      rw [b_lenS]; rfl
    have p2 : ev c (.blt .min2 [.cint (K : Nat), .blt .len [.peek 0]]) s = .ok (.frz (.int (if (ns.length : Int) < (K : Nat) then (ns.length : Int) else (K : Nat)))) s := by
      rw [x_blt, x_evs1, x_cint, thn_ok, x_evs1, p1]
      rfl
    have p3 : ev c (.blt .max2 [.cint 1, .blt .min2 [.cint (K : Nat), .blt .len [.peek 0]]]) s = .ok (.frz (.int (m : Nat))) s := by
      rw [x_blt, x_evs1, x_cint, thn_ok, x_evs1, p2]
      show (M.opt (some (Rv.frz (.int _))) s) = _
      rw [← hm1]; rfl
    rw [x_evs1, p3]; rfl
  have loop : ∃ y1 y2, isIo y1 = false ∧ isIo y2 = false ∧ evS c (cellLoop K CR R) (d.start [scriptV ns]) = .ok .next (.frz (scriptV ns) :: y1 :: y2 :: List.replicate (d.N.length - 3) .emp) := by
    unfold cellLoop
    rw [x_sLoop, its _ (by rw [hst]; rfl), thn_ok]
    rw [show fzs [Rv.frz (.int (m : Nat))] (d.start [scriptV ns]) = .ok [.int (m : Nat)] (d.start [scriptV ns]) from rfl, thn_ok, it_rng (by unfold lim; omega), opt_some, thn_ok]
    obtain ⟨s', h1, h2⟩ := for_inv (step := turn c (.name 1) [.asg (.name 2) (.call CR [.var 0, .var 1]), .ite (.bop .Or [.not (.callG R [.peek 2]), .not (.callG R [.peek 2])]) [.ret (.cbl false)] []])
      (fun _ s => ∃ y1 y2, isIo y1 = false ∧ isIo y2 = false ∧ s = .frz (scriptV ns) :: y1 :: y2 :: List.replicate (d.N.length - 3) .emp) (xs := (List.range m).map fun i => PyData.int (i : Nat)) (i := 0) (s := d.start [scriptV ns]) ⟨_, _, rfl, rfl, hst⟩ (fun k x hx s hs => by
        obtain ⟨y1, y2, g1, g2, rfl⟩ := hs
        rw [List.getElem?_map] at hx
        cases hr' : (List.range m)[k]? with
        | none => rw [hr'] at hx; cases hx
        | some j =>
          rw [hr'] at hx
          cases hx
          obtain ⟨e, he⟩ := cell_turn (k := j) g1 g2 hc hr hC hR (rest := List.replicate (d.N.length - 3) .emp)
          exact ⟨_, he, _, _, rfl, rfl, rfl⟩)
    obtain ⟨y1, y2, g1, g2, rfl⟩ := h2
    exact ⟨y1, y2, g1, g2, h1⟩
  obtain ⟨y1, y2, g1, g2, hl⟩ := loop
  have anyOk : ∀ y : Slot, isIo y = false → DenS [] .any y := fun y hy => by cases y <;> first | trivial | cases hy
  have hs : St [] ⟨[], .any :: .any :: .any :: List.replicate (d.N.length - 3) .emp⟩ (.frz (scriptV ns) :: y1 :: y2 :: List.replicate (d.N.length - 3) .emp) :=
    ⟨rfl, fun j n hj => by simp at hj, trivial, anyOk _ g1, anyOk _ g2, envD_emp _⟩
  unfold runDef
  rw [if_pos ⟨by rw [hnp]; rfl, by rw [hnp]; omega⟩, hb, x_ss1, hl, thn_ok]
  dsimp only
  split at hF
  · rename_i b σ hq
    subst hF
    obtain ⟨ext, a, s', k1, k2, k3⟩ := sevSs_ok hp rest hs _ _ hq
    cases a <;> first | exact k3.elim | skip
    rename_i r
    cases r <;> first | exact (show False from k3).elim | skip
    rename_i v
    have k3 : Den ([] ++ ext) (.dd (.leaf (.bool true))) v := k3
    have := den_leaf_eq k3
    subst this
    rw [k2, hle]; rfl
  · cases hF
/-- a pick, by what is known of the number drawn -/
theorem pick_ok {c : Cf} {pk : Nat} (hl : c.lent pk = [0]) (h : ∀ (e : PV) (xs : List PV), Ew e → 0 < xs.length → xs.length < 2 ^ 24 → ∃ (k : Nat) (x e' : PV), Ew e' ∧ xs[k]? = some x ∧ c.Φ pk [e, .list xs] = some (.frz x, [e'])) : PickOk c pk := ⟨hl, h⟩
end Ev

namespace Lk26
open PySem PySem.Spec L2 Ev
def topS (i : Nat) : Stmt := PySem.Challenge.pw_loadwide_k26_errors_of_two_hands.main.body.getD i (.Pass ⟨0, 0, 0, 0⟩)
def met : MetD := ⟨"told", [(1, .str "jobs"), (2, .str "operation"), (0, .fld ["number"]), (3, .fld ["many"])]⟩
/-- is_whole_value -/
def b0 : List Ev.S := [
  .ret (.bop .And [.isi .int (.peek 0), .not (.isi .bool (.peek 0))])]
def d0 : Ev.Def := ⟨"is_whole_value", 1, [], ["value"], b0, false, false⟩
/-- is_index_below -/
def b1 : List Ev.S := [
  .ret (.bop .And [.call 0 [.var 0], .chain .LtE .Lt (.cint 0) (.var 0) (.peek 1)])]
def d1 : Ev.Def := ⟨"is_index_below", 2, [], ["value", "many"], b1, false, false⟩
/-- later_masks -/
def b2 : List Ev.S := [
  .asg (.name 2) (.bin .Mult (.lst [.cint 0]) (.peek 0)),
  .loop (.name 3) .rng [.var 0] [.loop (.tup [.name 4, .name 5]) .val [.var 1] [.augI 2 .BitOr (.peek 4) (.bin .BitOr (.bin .LShift (.cint 1) (.peek 5)) (.idx (.peek 2) (.peek 5)))]],
  .ret (.mv 2)]
def d2 : Ev.Def := ⟨"later_masks", 2, [], ["many", "needs", "found", "turn", "one", "other"], b2, false, false⟩
/-- earlier_masks -/
def b3 : List Ev.S := [
  .ret (.call 2 [.var 0, .lc [("one", 2), ("other", 3)] (.tup [.var 3, .var 2]) (.tup [.name 2, .name 3]) .val [.var 1] []])]
def d3 : Ev.Def := ⟨"earlier_masks", 2, [], ["many", "needs", "one", "other"], b3, false, false⟩
/-- has_bit -/
def b4 : List Ev.S := [
  .ret (.cmp .Eq (.bin .BitAnd (.bin .RShift (.peek 0) (.peek 1)) (.cint 1)) (.cint 1))]
def d4 : Ev.Def := ⟨"has_bit", 2, [], ["mask", "task"], b4, false, false⟩
/-- tasks_in -/
def b5 : List Ev.S := [
  .ret (.lc [("task", 2)] (.var 2) (.name 2) .rng [.var 1] [.call 4 [.var 0, .var 2]])]
def d5 : Ev.Def := ⟨"tasks_in", 2, [], ["mask", "many", "task"], b5, false, false⟩
/-- next_ones -/
def b6 : List Ev.S := [
  .asg (.name 2) (.call 2 [.var 0, .var 1]),
  .asg (.name 3) (.lst []),
  .loop (.name 4) .rng [.var 0] [.asg (.name 5) (.call 5 [.idx (.peek 2) (.peek 4), .var 0]), .mut .append 3 [.lc [("other", 6)] (.var 6) (.name 6) .val [.var 5] [.not (.blt .any [.lc [("one", 7)] (.call 4 [.idx (.peek 2) (.peek 7), .var 6]) (.name 7) .val [.var 5] []])]]],
  .ret (.mv 3)]
def d6 : Ev.Def := ⟨"next_ones", 2, [], ["many", "needs", "later", "found", "task", "behind", "other", "one"], b6, false, false⟩
/-- labels_of -/
def b7 : List Ev.S := [
  .par [2, 3] [.call 6 [.var 0, .var 1], .dct0],
  .whl (.cmp .Lt (.blt .len [.peek 3]) (.peek 0)) [.asg (.name 4) (.lst []), .loop (.name 5) .rng [.var 0] [.ite (.bop .And [.cmp .NotIn (.peek 5) (.peek 3), .blt .all [.lc [("other", 6)] (.cmp .In (.peek 6) (.peek 3)) (.name 6) .val [.idx (.peek 2) (.peek 5)] []]]) [.mut .append 4 [.tup [.bk .sortR (.lc [("other", 6)] (.idx (.peek 3) (.peek 6)) (.name 6) .val [.idx (.peek 2) (.peek 5)] []) (.cbl true), .var 5]]] []], .seti 3 (.idx (.blt .mn [.peek 4]) (.cint 1)) (.bin .Add (.blt .len [.peek 3]) (.cint 1))],
  .ret (.mv 3)]
def d7 : Ev.Def := ⟨"labels_of", 2, [], ["many", "needs", "behind", "found", "some", "task", "other"], b7, false, false⟩
/-- slots_by -/
def b8 : List Ev.S := [
  .par [3, 4, 5] [.call 3 [.var 0, .var 1], .cint 0, .lst []],
  .asg (.name 6) (.sortK 8 (.neg (.idx (.peek 2) (.peek 8))) .rng [.var 0]),
  .whl (.cmp .Lt (.blt .sum [.lc [("pair", 9)] (.blt .len [.peek 9]) (.name 9) .val [.var 5] []]) (.peek 0)) [.asg (.name 7) (.lc [("task", 8)] (.var 8) (.name 8) .val [.var 6] [.bop .And [.not (.call 4 [.var 4, .var 8]), .cmp .Eq (.bin .BitAnd (.idx (.peek 3) (.peek 8)) (.inv (.peek 4))) (.cint 0)]]), .mut .append 5 [.slcH (.peek 7) (.cint 2)], .loop (.name 8) .val [.slcH (.peek 7) (.cint 2)] [.aug 4 .BitOr (.bin .LShift (.cint 1) (.peek 8))]],
  .ret (.mv 5)]
def d8 : Ev.Def := ⟨"slots_by", 3, [], ["many", "needs", "labels", "earlier", "done", "found", "sequence", "ready", "task", "pair"], b8, true, false⟩
/-- lots_by -/
def b9 : List Ev.S := [
  .ite (.cmp .Eq (.peek 0) (.lst [])) [.ret (.tup [])] [],
  .par [2, 3, 4] [.lst [], .idx (.idx (.peek 0) (.neg (.cint 1))) (.cint 0), .bin .Sub (.blt .len [.peek 0]) (.cint 1)],
  .whl (.cbl true) [.par [5, 6] [.lst [.var 3], .bin .Sub (.peek 4) (.cint 1)], .whl (.bop .And [.cmp .GtE (.peek 6) (.cint 0), .cmp .Eq (.blt .len [.idx (.peek 0) (.peek 6)]) (.cint 2), .cmp .GtE (.idx (.peek 1) (.idx (.idx (.peek 0) (.peek 6)) (.cint 1))) (.idx (.peek 1) (.peek 3))]) [.mut .extend 5 [.idx (.peek 0) (.peek 6)], .aug 6 .Sub (.cint 1)], .mut .append 2 [.blt .tuple [.blt .sorted [.peek 5]]], .ite (.cmp .Lt (.peek 6) (.cint 0)) [.ret (.blt .tuple [.rev (.peek 2)])] [], .par [3, 4] [.idx (.idx (.peek 0) (.peek 6)) (.cint 0), .var 6]]]
def d9 : Ev.Def := ⟨"lots_by", 2, [], ["slots", "labels", "found", "head", "top", "lot", "at"], b9, false, false⟩
/-- best_in -/
def b10 : List Ev.S := [
  .asg (.name 2) (.call 7 [.var 0, .var 1]),
  .asg (.name 3) (.call 8 [.var 0, .var 1, .var 2]),
  .asg (.name 4) (.dcE [("slot", 5), ("pair", 6), ("task", 7)] .enm [.var 3]),
  .ret (.tup [.blt .tuple [.lc [("task", 7)] (.idx (.peek 4) (.peek 7)) (.name 7) .rng [.var 0] []], .call 9 [.var 3, .var 2]])]
def d10 : Ev.Def := ⟨"best_in", 2, [], ["many", "needs", "labels", "slots", "at", "slot", "pair", "task"], b10, false, false⟩
/-- count_of_length -/
def b11 : List Ev.S := [
  .par [3, 4] [.call 3 [.var 0, .var 1], .disp1 (.cint 0) (.cint 1)],
  .loop (.name 5) .rng [.var 2] [.asg (.name 6) (.dct0), .never, .asg (.name 4) (.var 6)],
  .never]
def d11 : Ev.Def := ⟨"count_of_length", 3, [], ["many", "needs", "length", "earlier", "layer", "slot", "later", "done", "ways", "ready", "steps", "step"], b11, false, false⟩
/-- most_pairs -/
def b12 : List Ev.S := [
  .par [2, 3] [.call 2 [.var 0, .var 1], .bin .Mult (.lst [.cint 0]) (.bin .LShift (.cint 1) (.peek 0))],
  .loop (.name 4) .rng [.cint 1, .bin .LShift (.cint 1) (.peek 0)] [.asg (.name 5) (.call 5 [.var 4, .var 0]), .par [6, 7] [.idx (.peek 5) (.cint 0), .bin .BitAnd (.peek 4) (.bin .Sub (.peek 4) (.cint 1))], .seti 3 (.peek 4) (.idx (.peek 3) (.peek 7)), .loop (.name 8) .val [.slcL (.peek 5) (.cint 1)] [.ite (.bop .And [.not (.call 4 [.idx (.peek 2) (.peek 6), .var 8]), .not (.call 4 [.idx (.peek 2) (.peek 8), .var 6])]) [.seti 3 (.peek 4) (.blt .max2 [.idx (.peek 3) (.peek 4), .bin .Add (.cint 1) (.idx (.peek 3) (.bin .BitAnd (.peek 7) (.inv (.bin .LShift (.cint 1) (.peek 8)))))])] []]],
  .ret (.idx (.peek 3) (.neg (.cint 1)))]
def d12 : Ev.Def := ⟨"most_pairs", 2, [], ["many", "needs", "later", "found", "mask", "tasks", "one", "rest", "other"], b12, false, false⟩
/-- keeps_slots -/
def b13 : List Ev.S := [
  .ite (.bop .Or [.not (.isi .tuple (.peek 2)), .cmp .NotEq (.blt .len [.peek 2]) (.peek 0)]) [.ret (.cbl false)] [],
  .ite (.not (.blt .all [.lc [("slot", 3)] (.bop .And [.call 0 [.var 3], .cmp .GtE (.peek 3) (.cint 0)]) (.name 3) .val [.var 2] []])) [.ret (.cbl false)] [],
  .ret (.bop .And [.blt .all [.lc [("slot", 3)] (.cmp .Lt (.mth .count (.peek 2) [.peek 3]) (.cint 3)) (.name 3) .val [.var 2] []], .blt .all [.lc [("one", 4), ("other", 5)] (.cmp .Lt (.idx (.peek 2) (.peek 4)) (.idx (.peek 2) (.peek 5))) (.tup [.name 4, .name 5]) .val [.var 1] []]])]
def d13 : Ev.Def := ⟨"keeps_slots", 3, [], ["many", "needs", "value", "slot", "one", "other"], b13, false, false⟩
/-- is_lot_in -/
def b14 : List Ev.S := [
  .ite (.bop .Or [.not (.isi .tuple (.peek 1)), .cmp .Eq (.peek 1) (.tup []), .not (.blt .all [.lc [("task", 2)] (.call 1 [.var 2, .var 0]) (.name 2) .val [.var 1] []])]) [.ret (.cbl false)] [],
  .ret (.blt .all [.lc [("one", 3), ("other", 4)] (.cmp .Lt (.peek 3) (.peek 4)) (.tup [.name 3, .name 4]) .zip [.var 1, .slcL (.peek 1) (.cint 1)] []])]
def d14 : Ev.Def := ⟨"is_lot_in", 2, [], ["many", "value", "task", "one", "other"], b14, false, false⟩
/-- are_lots -/
def b15 : List Ev.S := [
  .ite (.bop .Or [.not (.isi .tuple (.peek 2)), .not (.blt .all [.lc [("lot", 4)] (.call 14 [.var 0, .var 4]) (.name 4) .val [.var 2] []])]) [.ret (.cbl false)] [],
  .asg (.name 3) (.call 2 [.var 0, .var 1]),
  .loop (.tup [.name 4, .name 5]) .zip [.var 2, .slcL (.peek 2) (.cint 1)] [.ite (.not (.blt .all [.lc2 [("one", 6), ("other", 7)] (.call 4 [.idx (.peek 3) (.peek 6), .var 7]) (.name 6) .val [.var 4] [] (.name 7) .val [.var 5] []])) [.ret (.cbl false)] []],
  .ret (.cbl true)]
def d15 : Ev.Def := ⟨"are_lots", 3, [], ["many", "needs", "value", "later", "lot", "behind", "one", "other"], b15, false, false⟩
/-- shows_least -/
def b16 : List Ev.S := [
  .ite (.bop .Or [.not (.isi .tuple (.peek 2)), .cmp .NotEq (.blt .len [.peek 2]) (.cint 3), .not (.isi .str (.idx (.peek 2) (.cint 0))), .cmp .NotEq (.idx (.peek 2) (.cint 0)) (.glb 0)]) [.ret (.cbl false)] [],
  .ite (.bop .Or [.not (.call 13 [.var 0, .var 1, .idx (.peek 2) (.cint 1)]), .not (.call 15 [.var 0, .var 1, .idx (.peek 2) (.cint 2)])]) [.ret (.cbl false)] [],
  .ret (.cmp .Eq (.bin .Add (.bk .maxD (.idx (.peek 2) (.cint 1)) (.neg (.cint 1))) (.cint 1)) (.blt .sum [.lc [("lot", 3)] (.bin .FloorDiv (.bin .Add (.blt .len [.peek 3]) (.cint 1)) (.cint 2)) (.name 3) .val [.idx (.peek 2) (.cint 2)] []]))]
def d16 : Ev.Def := ⟨"shows_least", 3, [], ["many", "needs", "value", "lot"], b16, false, false⟩
/-- require_tasks_of -/
def b17 : List Ev.S := [
  .ite (.not (.call 1 [.var 0, .bin .Add (.glb 1) (.cint 1)])) [.raise 0 (some (.var 0))] [],
  .ite (.not (.isi .tuple (.peek 1))) [.raise 1 none] [],
  .loop (.name 2) .val [.var 1] [.ite (.bop .Or [.not (.isi .tuple (.peek 2)), .cmp .NotEq (.blt .len [.peek 2]) (.cint 2), .not (.blt .all [.lc [("task", 3)] (.call 1 [.var 3, .var 0]) (.name 3) .val [.var 2] []])]) [.raise 1 none] []],
  .ite (.not (.blt .all [.lc [("one", 4), ("other", 5)] (.cmp .Lt (.peek 4) (.peek 5)) (.tup [.name 4, .name 5]) .zip [.var 1, .slcL (.peek 1) (.cint 1)] []])) [.raise 1 none] [],
  .ite (.blt .any [.lc [("task", 3), ("later", 6)] (.call 4 [.var 6, .var 3]) (.tup [.name 3, .name 6]) .enm [.call 2 [.var 0, .var 1]] []]) [.raise 1 none] []]
def d17 : Ev.Def := ⟨"require_tasks_of", 2, [], ["many", "needs", "pair", "task", "one", "other", "later"], b17, false, false⟩
/-- ahead_pairs -/
def b18 : List Ev.S := [
  .exX 17 [.var 0, .var 1],
  .asg (.name 2) (.call 2 [.var 0, .var 1]),
  .ret (.blt .tuple [.lc2 [("one", 3), ("other", 4)] (.tup [.var 3, .var 4]) (.name 3) .rng [.var 0] [] (.name 4) .val [.call 5 [.idx (.peek 2) (.peek 3), .var 0]] []])]
def d18 : Ev.Def := ⟨"ahead_pairs", 2, [], ["many", "needs", "later", "one", "other"], b18, false, false⟩
/-- is_timetable -/
def b19 : List Ev.S := [
  .exX 17 [.var 0, .var 1],
  .ret (.call 13 [.var 0, .var 1, .var 2])]
def d19 : Ev.Def := ⟨"is_timetable", 3, [], ["many", "needs", "value"], b19, false, false⟩
/-- length_of -/
def b20 : List Ev.S := [
  .exX 17 [.var 0, .var 1],
  .ite (.not (.call 13 [.var 0, .var 1, .var 2])) [.raise 2 none] [],
  .ret (.bin .Add (.bk .maxD (.peek 2) (.neg (.cint 1))) (.cint 1))]
def d20 : Ev.Def := ⟨"length_of", 3, [], ["many", "needs", "timetable"], b20, false, false⟩
/-- least_length -/
def b21 : List Ev.S := [
  .exX 17 [.var 0, .var 1],
  .ret (.bin .Add (.bk .maxD (.idx (.call 10 [.var 0, .var 1]) (.cint 0)) (.neg (.cint 1))) (.cint 1))]
def d21 : Ev.Def := ⟨"least_length", 2, [], ["many", "needs"], b21, false, false⟩
/-- count_least -/
def b22 : List Ev.S := [
  .retXA 11 [.var 0, .var 1] 21 [.var 0, .var 1]]
def d22 : Ev.Def := ⟨"count_least", 2, [], ["many", "needs"], b22, false, false⟩
/-- least_paper -/
def b23 : List Ev.S := [
  .exX 17 [.var 0, .var 1],
  .ret (.tup [.glb 0, .star (.call 10 [.var 0, .var 1])])]
def d23 : Ev.Def := ⟨"least_paper", 2, [], ["many", "needs"], b23, false, false⟩
/-- is_least_paper -/
def b24 : List Ev.S := [
  .exX 17 [.var 0, .var 1],
  .ret (.call 16 [.var 0, .var 1, .var 2])]
def d24 : Ev.Def := ⟨"is_least_paper", 3, [], ["many", "needs", "value"], b24, false, false⟩
/-- greatest_pairs -/
def b25 : List Ev.S := [
  .exX 17 [.var 0, .var 1],
  .ret (.call 12 [.var 0, .var 1])]
def d25 : Ev.Def := ⟨"greatest_pairs", 2, [], ["many", "needs"], b25, false, false⟩
/-- _law_bag -/
def b26 : List Ev.S := [
  .asg (.name 2) (.ite (.cmp .Lt (.peek 1) (.blt .len [.peek 0])) (.blt .int [.idx (.peek 0) (.peek 1)]) (.bin .Add (.bin .Mult (.cint 883) (.peek 1)) (.cint 83))),
  .asg (.name 3) (.bin .Mod (.blt .int [.blt .abs [.peek 2]]) (.bin .Pow (.bin .Pow (.cint 10) (.cint 39)) (.cint 8))),
  .asg (.name 4) (.bin .Add (.bin .Add (.bin .Add (.bin .Mult (.bin .Mod (.peek 3) (.cint 2305843009213693951)) (.cint 157)) (.bin .Mult (.cint 601) (.peek 1))) (.bin .Mult (.cint 107) (.blt .int [.cmp .Lt (.peek 2) (.cint 0)]))) (.cint 67)),
  .ret (.lst [.blt .max2 [.cint 0, .bin .Sub (.peek 3) (.bin .Pow (.cint 10) (.cint 16))], .var 4, .cint 0])]
def d26 : Ev.Def := ⟨"_law_bag", 2, [], ["script", "spot", "cell", "great", "mixed"], b26, false, false⟩
/-- _law_pull -/
def b27 : List Ev.S := [
  .ite (.cmp .Gt (.idx (.peek 0) (.cint 0)) (.cint 0)) [.asg (.name 2) (.bin .Mod (.blt .int [.idx (.peek 0) (.cint 0)]) (.peek 1)), .seti 0 (.cint 0) (.bin .FloorDiv (.idx (.peek 0) (.cint 0)) (.peek 1)), .ret (.mv 2)] [],
  .seti 0 (.cint 2) (.bin .Add (.idx (.peek 0) (.cint 2)) (.cint 1)),
  .asg (.name 3) (.bin .Mod (.blt .int [.bin .Add (.idx (.peek 0) (.cint 1)) (.bin .Mult (.cint 10001687) (.idx (.peek 0) (.cint 2)))]) (.cint 2305843009213693951)),
  .asg (.name 4) (.bin .Add (.bin .Mult (.bin .Mod (.blt .int [.bin .Add (.bin .Mult (.peek 3) (.peek 3)) (.bin .Mult (.cint 727) (.idx (.peek 0) (.cint 2)))]) (.cint 2305843009213693951)) (.cint 8589934609)) (.peek 3)),
  .ret (.bin .Mod (.blt .int [.bin .FloorDiv (.peek 4) (.cint 131072)]) (.peek 1))]
def d27 : Ev.Def := ⟨"_law_pull", 2, [0], ["bag", "total", "found", "one", "two"], b27, false, false⟩
/-- _law_choose -/
def b28 : List Ev.S := [
  .ret (.idx (.peek 1) (.call 27 [.peek 0, .blt .len [.peek 1]]))]
def d28 : Ev.Def := ⟨"_law_choose", 2, [0], ["bag", "items"], b28, false, false⟩
/-- _law_met -/
def b29 : List Ev.S := [
  .never]
def d29 : Ev.Def := ⟨"_law_met", 1, [], ["call", "error"], b29, false, false⟩
/-- _law_right -/
def b30 : List Ev.S := [
  .asg (.name 1) (.call 28 [.peek 0, .lst [.cnon, .neg (.cint 1), .cint 13, .cbl true, .cstr "4", .tup [.cint 4], .bin .Pow (.cint 10) (.cint 30), .lst []]]),
  .asg (.name 2) (.lst [.cnon, .cint 0, .lst [.tup [.cint 0, .cint 1]], .tup [.tup [.cint 1, .cint 0], .tup [.cint 0, .cint 1]], .tup [.tup [.cint 0, .cint 1], .tup [.cint 0, .cint 1]], .tup [.tup [.cint 0, .cint 2], .tup [.cint 0, .cint 1]], .tup [.tup [.cint 0, .cint 0]], .tup [.tup [.cint 0, .cint 4]], .tup [.tup [.neg (.cint 1), .cint 0]], .tup [.tup [.cint 0]], .tup [.tup [.cint 0, .cint 1, .cint 2]], .tup [.tup [.cbl true, .cint 2]], .tup [.tup [.cint 0, .cstr "1"]], .dct0, .cstr "01", .tup [.lst [.cint 0, .cint 1]]]),
  .asg (.name 2) (.call 28 [.peek 0, .bin .Add (.peek 2) (.lst [.tup [.tup [.cint 0, .cint 1], .tup [.cint 1, .cint 2], .tup [.cint 2, .cint 0]], .tup [.cint 0, .cint 1]])]),
  .asg (.name 3) (.call 28 [.peek 0, .lst [.cnon, .cint 0, .tup [], .tup [.cint 0, .cint 0, .cint 1], .lst [.cint 0, .cint 0, .cint 1, .cint 2], .tup [.cint 0, .cint 0, .cint 0, .cint 1], .tup [.cint 2, .cint 1, .cint 1, .cint 0], .tup [.cint 0, .cint 0, .cint 1, .cbl true], .tup [.cint 0, .cint 0, .cint 1, .neg (.cint 1)], .tup [.cint 0, .cint 0, .cint 1, .cnon], .cstr "0012", .dct0, .tup [.cint 1, .cint 0, .cint 1, .cint 2]]]),
  .par [4, 5, 6] [.tup [.tup [.cint 0, .cint 2], .tup [.cint 1, .cint 2], .tup [.cint 2, .cint 3]], .lst [], .lst []],
  .loopF 7 [18, 21, 22, 23, 25] [.mut .append 5 [.metv 29 met 7 [.var 1, .var 2]], .mut .append 5 [.metv 29 met 7 [.cint 4, .var 2]], .asg (.name 6) (.bin .Add (.peek 6) (.lst [.tup [.cstr "number", .var 1], .cstr "jobs"]))],
  .mut .append 5 [.met 29 met 19 [.var 1, .var 2, .cnon]],
  .mut .append 5 [.met 29 met 19 [.cint 4, .var 2, .cnon]],
  .mut .append 5 [.met 29 met 24 [.var 1, .var 2, .cnon]],
  .mut .append 5 [.met 29 met 24 [.cint 4, .var 2, .cnon]],
  .mut .append 5 [.met 29 met 20 [.var 1, .var 2, .var 3]],
  .mut .append 5 [.met 29 met 20 [.cint 4, .var 2, .var 3]],
  .mut .append 5 [.met 29 met 20 [.cint 4, .var 4, .var 3]],
  .asg (.name 6) (.bin .Add (.bin .Add (.peek 6) (.bin .Mult (.lst [.tup [.cstr "number", .var 1], .cstr "jobs"]) (.cint 3))) (.lst [.cstr "operation"])),
  .ite (.cmp .NotEq (.reprD (.peek 5)) (.reprD (.peek 6))) [.ret (.cbl false)] [],
  .loop (.name 8) .val [.lst [.var 1, .var 2, .var 3, .dct0, .lst [.lst []], .disp1 (.cstr "a") (.cint 1), .tup [.cstr "least", .dct0, .tup []], .tup [.cstr "least", .tup [], .dct0], .tup [.cstr "least", .tup [.cint 0, .cint 0, .cint 1, .cint 2], .tup [.dct0]], .tup [.dct0, .cint 0, .cint 0], .tup [.cstr "least", .lst [.cint 0], .tup []]]] [.ite (.bop .Or [.cmp .IsNot (.call 24 [.cint 4, .var 4, .var 8]) (.cbl false), .cmp .IsNot (.call 19 [.cint 4, .var 4, .var 8]) (.cbl false)]) [.ret (.cbl false)] []],
  .ret (.cbl true)]
def d30 : Ev.Def := ⟨"_law_right", 1, [0], ["bag", "many", "needs", "slots", "good", "told", "due", "call", "value"], b30, true, true⟩
/-- law -/
def b31 : List Ev.S := [
  .loop (.name 1) .rng [.blt .max2 [.cint 1, .blt .min2 [.cint 4, .blt .len [.peek 0]]]] [.asg (.name 2) (.call 26 [.var 0, .var 1]), .ite (.bop .Or [.not (.callG 30 [.peek 2]), .not (.callG 30 [.peek 2])]) [.ret (.cbl false)] []],
  .ret (.bop .And [.cmp .Eq (.call 21 [.cint 0, .tup []]) (.cint 0), .cmp .Eq (.call 18 [.cint 12, .tup [.tup [.cint 0, .cint 11]]]) (.tup [.tup [.cint 0, .cint 11]])])]
def d31 : Ev.Def := ⟨"law", 1, [], ["script", "spot", "bag"], b31, false, true⟩
def prg : Prg := ⟨[d0, d1, d2, d3, d4, d5, d6, d7, d8, d9, d10, d11, d12, d13, d14, d15, d16, d17, d18, d19, d20, d21, d22, d23, d24, d25, d26, d27, d28, d29, d30, d31], [.str "least", .int 12]⟩
def fns : List Str := [("is_whole_value" : Str), ("is_index_below" : Str), ("later_masks" : Str), ("earlier_masks" : Str), ("has_bit" : Str), ("tasks_in" : Str), ("next_ones" : Str), ("labels_of" : Str), ("slots_by" : Str), ("lots_by" : Str), ("best_in" : Str), ("count_of_length" : Str), ("most_pairs" : Str), ("keeps_slots" : Str), ("is_lot_in" : Str), ("are_lots" : Str), ("shows_least" : Str), ("require_tasks_of" : Str), ("ahead_pairs" : Str), ("is_timetable" : Str), ("length_of" : Str), ("least_length" : Str), ("count_least" : Str), ("least_paper" : Str), ("is_least_paper" : Str), ("greatest_pairs" : Str), ("_law_bag" : Str), ("_law_pull" : Str), ("_law_choose" : Str), ("_law_met" : Str), ("_law_right" : Str), ("law" : Str)]
def gs : List Str := [("LEAST" : Str), ("MOST_TASKS" : Str)]
def xs : List (Str × Option Str) := [("InvalidNumber", some "value"), ("InvalidJobs", none), ("InvalidOperation", none), ("TooMany", some "limit")]
def mets : Option (Nat × MetD) := some (29, met)
def gds : List Nat := [30, 31]
theorem ok0 : defOk fns gs xs mets gds d0.gd d0 (topS 9) = true := by decide +kernel
theorem sc0 : FnScope d0.N (d0.N.take d0.np) (defScope (topS 9)) := ⟨rfl, rfl, rfl, by decide +kernel, rfl, by decide +kernel, by decide +kernel⟩
theorem ok1 : defOk fns gs xs mets gds d1.gd d1 (topS 10) = true := by decide +kernel
theorem sc1 : FnScope d1.N (d1.N.take d1.np) (defScope (topS 10)) := ⟨rfl, rfl, rfl, by decide +kernel, rfl, by decide +kernel, by decide +kernel⟩
theorem ok2 : defOk fns gs xs mets gds d2.gd d2 (topS 11) = true := by decide +kernel
theorem sc2 : FnScope d2.N (d2.N.take d2.np) (defScope (topS 11)) := ⟨rfl, rfl, rfl, by decide +kernel, rfl, by decide +kernel, by decide +kernel⟩
theorem ok3 : defOk fns gs xs mets gds d3.gd d3 (topS 12) = true := by decide +kernel
theorem sc3 : FnScope d3.N (d3.N.take d3.np) (defScope (topS 12)) := ⟨rfl, rfl, rfl, by decide +kernel, rfl, by decide +kernel, by decide +kernel⟩
theorem ok4 : defOk fns gs xs mets gds d4.gd d4 (topS 13) = true := by decide +kernel
theorem sc4 : FnScope d4.N (d4.N.take d4.np) (defScope (topS 13)) := ⟨rfl, rfl, rfl, by decide +kernel, rfl, by decide +kernel, by decide +kernel⟩
theorem ok5 : defOk fns gs xs mets gds d5.gd d5 (topS 14) = true := by decide +kernel
theorem sc5 : FnScope d5.N (d5.N.take d5.np) (defScope (topS 14)) := ⟨rfl, rfl, rfl, by decide +kernel, rfl, by decide +kernel, by decide +kernel⟩
theorem ok6 : defOk fns gs xs mets gds d6.gd d6 (topS 15) = true := by decide +kernel
theorem sc6 : FnScope d6.N (d6.N.take d6.np) (defScope (topS 15)) := ⟨rfl, rfl, rfl, by decide +kernel, rfl, by decide +kernel, by decide +kernel⟩
theorem ok7 : defOk fns gs xs mets gds d7.gd d7 (topS 16) = true := by decide +kernel
theorem sc7 : FnScope d7.N (d7.N.take d7.np) (defScope (topS 16)) := ⟨rfl, rfl, rfl, by decide +kernel, rfl, by decide +kernel, by decide +kernel⟩
theorem ok8 : defOk fns gs xs mets gds d8.gd d8 (topS 17) = true := by decide +kernel
theorem sc8 : FnScope d8.N (d8.N.take d8.np) (defScope (topS 17)) := ⟨rfl, rfl, rfl, by decide +kernel, rfl, by decide +kernel, by decide +kernel⟩
theorem ok9 : defOk fns gs xs mets gds d9.gd d9 (topS 18) = true := by decide +kernel
theorem sc9 : FnScope d9.N (d9.N.take d9.np) (defScope (topS 18)) := ⟨rfl, rfl, rfl, by decide +kernel, rfl, by decide +kernel, by decide +kernel⟩
theorem ok10 : defOk fns gs xs mets gds d10.gd d10 (topS 19) = true := by decide +kernel
theorem sc10 : FnScope d10.N (d10.N.take d10.np) (defScope (topS 19)) := ⟨rfl, rfl, rfl, by decide +kernel, rfl, by decide +kernel, by decide +kernel⟩
theorem ok11 : defOk fns gs xs mets gds d11.gd d11 (topS 20) = true := by decide +kernel
theorem sc11 : FnScope d11.N (d11.N.take d11.np) (defScope (topS 20)) := ⟨rfl, rfl, rfl, by decide +kernel, rfl, by decide +kernel, by decide +kernel⟩
theorem ok12 : defOk fns gs xs mets gds d12.gd d12 (topS 21) = true := by decide +kernel
theorem sc12 : FnScope d12.N (d12.N.take d12.np) (defScope (topS 21)) := ⟨rfl, rfl, rfl, by decide +kernel, rfl, by decide +kernel, by decide +kernel⟩
theorem ok13 : defOk fns gs xs mets gds d13.gd d13 (topS 22) = true := by decide +kernel
theorem sc13 : FnScope d13.N (d13.N.take d13.np) (defScope (topS 22)) := ⟨rfl, rfl, rfl, by decide +kernel, rfl, by decide +kernel, by decide +kernel⟩
theorem ok14 : defOk fns gs xs mets gds d14.gd d14 (topS 23) = true := by decide +kernel
theorem sc14 : FnScope d14.N (d14.N.take d14.np) (defScope (topS 23)) := ⟨rfl, rfl, rfl, by decide +kernel, rfl, by decide +kernel, by decide +kernel⟩
theorem ok15 : defOk fns gs xs mets gds d15.gd d15 (topS 24) = true := by decide +kernel
theorem sc15 : FnScope d15.N (d15.N.take d15.np) (defScope (topS 24)) := ⟨rfl, rfl, rfl, by decide +kernel, rfl, by decide +kernel, by decide +kernel⟩
theorem ok16 : defOk fns gs xs mets gds d16.gd d16 (topS 25) = true := by decide +kernel
theorem sc16 : FnScope d16.N (d16.N.take d16.np) (defScope (topS 25)) := ⟨rfl, rfl, rfl, by decide +kernel, rfl, by decide +kernel, by decide +kernel⟩
theorem ok17 : defOk fns gs xs mets gds d17.gd d17 (topS 26) = true := by decide +kernel
theorem sc17 : FnScope d17.N (d17.N.take d17.np) (defScope (topS 26)) := ⟨rfl, rfl, rfl, by decide +kernel, rfl, by decide +kernel, by decide +kernel⟩
theorem ok18 : defOk fns gs xs mets gds d18.gd d18 (topS 27) = true := by decide +kernel
theorem sc18 : FnScope d18.N (d18.N.take d18.np) (defScope (topS 27)) := ⟨rfl, rfl, rfl, by decide +kernel, rfl, by decide +kernel, by decide +kernel⟩
theorem ok19 : defOk fns gs xs mets gds d19.gd d19 (topS 28) = true := by decide +kernel
theorem sc19 : FnScope d19.N (d19.N.take d19.np) (defScope (topS 28)) := ⟨rfl, rfl, rfl, by decide +kernel, rfl, by decide +kernel, by decide +kernel⟩
theorem ok20 : defOk fns gs xs mets gds d20.gd d20 (topS 29) = true := by decide +kernel
theorem sc20 : FnScope d20.N (d20.N.take d20.np) (defScope (topS 29)) := ⟨rfl, rfl, rfl, by decide +kernel, rfl, by decide +kernel, by decide +kernel⟩
theorem ok21 : defOk fns gs xs mets gds d21.gd d21 (topS 30) = true := by decide +kernel
theorem sc21 : FnScope d21.N (d21.N.take d21.np) (defScope (topS 30)) := ⟨rfl, rfl, rfl, by decide +kernel, rfl, by decide +kernel, by decide +kernel⟩
theorem ok22 : defOk fns gs xs mets gds d22.gd d22 (topS 31) = true := by decide +kernel
theorem sc22 : FnScope d22.N (d22.N.take d22.np) (defScope (topS 31)) := ⟨rfl, rfl, rfl, by decide +kernel, rfl, by decide +kernel, by decide +kernel⟩
theorem ok23 : defOk fns gs xs mets gds d23.gd d23 (topS 32) = true := by decide +kernel
theorem sc23 : FnScope d23.N (d23.N.take d23.np) (defScope (topS 32)) := ⟨rfl, rfl, rfl, by decide +kernel, rfl, by decide +kernel, by decide +kernel⟩
theorem ok24 : defOk fns gs xs mets gds d24.gd d24 (topS 33) = true := by decide +kernel
theorem sc24 : FnScope d24.N (d24.N.take d24.np) (defScope (topS 33)) := ⟨rfl, rfl, rfl, by decide +kernel, rfl, by decide +kernel, by decide +kernel⟩
theorem ok25 : defOk fns gs xs mets gds d25.gd d25 (topS 34) = true := by decide +kernel
theorem sc25 : FnScope d25.N (d25.N.take d25.np) (defScope (topS 34)) := ⟨rfl, rfl, rfl, by decide +kernel, rfl, by decide +kernel, by decide +kernel⟩
theorem ok26 : defOk fns gs xs mets gds d26.gd d26 (topS 36) = true := by decide +kernel
theorem sc26 : FnScope d26.N (d26.N.take d26.np) (defScope (topS 36)) := ⟨rfl, rfl, rfl, by decide +kernel, rfl, by decide +kernel, by decide +kernel⟩
theorem ok27 : defOk fns gs xs mets gds d27.gd d27 (topS 37) = true := by decide +kernel
theorem sc27 : FnScope d27.N (d27.N.take d27.np) (defScope (topS 37)) := ⟨rfl, rfl, rfl, by decide +kernel, rfl, by decide +kernel, by decide +kernel⟩
theorem ok28 : defOk fns gs xs mets gds d28.gd d28 (topS 38) = true := by decide +kernel
theorem sc28 : FnScope d28.N (d28.N.take d28.np) (defScope (topS 38)) := ⟨rfl, rfl, rfl, by decide +kernel, rfl, by decide +kernel, by decide +kernel⟩
theorem ok29 : defOk fns gs xs mets gds d29.gd d29 (topS 39) = true := by decide +kernel
theorem sc29 : FnScope d29.N (d29.N.take d29.np) (defScope (topS 39)) := ⟨rfl, rfl, rfl, by decide +kernel, rfl, by decide +kernel, by decide +kernel⟩
theorem ok30 : defOk fns gs xs mets gds d30.gd d30 (topS 40) = true := by decide +kernel
theorem sc30 : FnScope d30.N (d30.N.take d30.np) (defScope (topS 40)) := ⟨rfl, rfl, rfl, by decide +kernel, rfl, by decide +kernel, by decide +kernel⟩
theorem ok31 : defOk fns gs xs mets gds d31.gd d31 (topS 41) = true := by decide +kernel
theorem sc31 : FnScope d31.N (d31.N.take d31.np) (defScope (topS 41)) := ⟨rfl, rfl, rfl, by decide +kernel, rfl, by decide +kernel, by decide +kernel⟩
theorem okM : metB d29.N (defScope (topS 39)) xs met (defBody (topS 39)) = true := by decide +kernel
theorem gdkT : (prg.defs.zipIdx.all fun q => gds.contains q.2 == q.1.gd) = true := by decide +kernel
theorem lent_cf {n f : Nat} : (prg.cf n).lent f = prg.lent f := rfl
theorem phi_cf {n : Nat} : (prg.cf n).Φ = prg.Φ n := rfl
theorem g_cf {n : Nat} : (prg.cf n).G = prg.G := rfl
local macro_rules | `(tactic| trivial) => `(tactic| simp only [↓x_cint, ↓x_cbl, ↓x_cnon, ↓x_cstr, ↓x_var, ↓x_mv, ↓x_peek, ↓x_glb, ↓x_bin, ↓x_neg, ↓x_not, ↓x_bop, ↓x_cmp, ↓x_chain, ↓x_ite, ↓x_tup, ↓x_lst, ↓x_dct0, ↓x_idx, ↓x_slcL, ↓x_slcH, ↓x_isi, ↓x_blt, ↓x_lrng, ↓x_mth, ↓x_call, ↓x_lc, ↓x_turn, ↓x_evB1, ↓x_and, ↓x_or, ↓x_evs0, ↓x_evs1, ↓x_evA0, ↓x_evA1, ↓x_evT0, ↓x_evT1, ↓x_opdF, ↓x_opdO, ↓x_opdS, ↓x_fzF, ↓x_fzO, ↓x_opds0, ↓x_opds1, ↓x_fzs0, ↓x_fzs1, ↓x_pure, x_opt, ↓q_mVar, ↓q_mMv, ↓q_mPeek, x_isi_ok, ↓x_ss0, ↓x_ss1, ↓x_sPass, ↓x_sBrk, ↓x_sCont, ↓x_sRetN, ↓x_sRet, ↓x_sEx, ↓x_sAsg, ↓x_sAsgT, ↓x_sPar, ↓x_par0, ↓x_par1, ↓x_sAug, ↓x_sSeti, ↓x_sMut, ↓x_sIte, ↓x_sLoop, ↓x_fturn, ↓q_storeF, ↓q_storeO, ↓q_ownVal, ↓q_setSlot, ↓x_bindN, ↓q_bindT, ↓x_bindTs0, ↓x_bindTs1, ↓x_sta0, ↓x_sta1, ↓x_callFn, ↓x_pass0, ↓x_pass1, ↓q_pass, ↓x_give0, ↓q_give, ↓q_ite, ↓q_pif, ↓x_look, thn_ok, o_add, o_sub, o_mul, o_div, o_mod, o_catT, o_catL, c_eq, c_ne, c_lt, c_le, c_gt, c_ge, c_isN, c_isnN, c_isB, c_isnB, c_in, c_nin, e_int, e_bool, t_bool, t_int, t_none, i_l0, i_l1, i_l2, i_t0, i_t1, i_t2, s_l0, s_l1, s_l2, b_lenL, b_lenT, b_lenS, b_abs, b_min2, b_max2, b_intI, b_intB, b_listL, b_listT, b_tupL, b_repr, u_app, u_ext, sc_int, sc_bool, sc_none, sc_list, sc_tuple, sc_str, sc_dct0, it_valT, it_valL, it_enmT, it_enmL, lent_cf, phi_cf, g_cf, List.getElem?_cons_zero, List.getElem?_cons_succ, Option.bind_some, Option.map_some, slotVal, isIo, no_stars, lims, Nat.zero_le, isListV, List.set_cons_zero, List.set_cons_succ, isiB, if_true, if_false, Bool.not_true, Bool.not_false, Bool.false_eq_true, reduceIte, List.length_cons, List.length_nil, List.map_cons, List.map_nil, List.nodup_nil, List.append_nil, List.nil_append, List.contains_nil, ct0, ct1, nd1, List.cons_append, Bool.true_eq_false, decide_true, decide_false, *])
theorem powA : binOp .Pow (.int 10) (.int 39) = some (.frz (.int (10 ^ 39))) := by
  show (if powOk 10 39 then some (Rv.frz (.int ((10 : Int) ^ (39 : Int).toNat))) else none) = _
  rw [if_pos (by decide +kernel)]; rfl
theorem powB : binOp .Pow (.int (10 ^ 39)) (.int 8) = some (.frz (.int ((10 ^ 39) ^ 8))) := by
  show (if powOk (10 ^ 39) 8 then some (Rv.frz (.int (((10 ^ 39) : Int) ^ (8 : Int).toNat))) else none) = _
  rw [if_pos (by decide +kernel)]; rfl
theorem powC : binOp .Pow (.int 10) (.int 16) = some (.frz (.int (10 ^ 16))) := by
  show (if powOk 10 16 then some (Rv.frz (.int ((10 : Int) ^ (16 : Int).toNat))) else none) = _
  rw [if_pos (by decide +kernel)]; rfl
theorem modP {i : Int} : binOp .Mod (.int i) (.int ((10 ^ 39) ^ 8)) = some (.frz (.int (i % (10 ^ 39) ^ 8))) := o_mod (by decide +kernel)
theorem bigD : (131072 : Int) < 2 ^ 4000 := by decide +kernel
theorem idx_scr {ns : List Int} {k : Nat} (h : k < ns.length) : idxOp (scriptV ns) (.int (k : Int)) = some (.int ns[k]) := by
  show (Ev.ixN (ns.map PyData.int).length (k : Int)).bind _ = _
  rw [ixN_nat (by simpa using h)]
  show (ns.map PyData.int)[k]? = _
  rw [List.getElem?_map, List.getElem?_eq_getElem h]
  rfl
theorem crock (n : Nat) (ns : List Int) (k : Nat) : ∃ e, Ew e ∧ prg.Φ (n + 1) 26 [scriptV ns, .int (k : Nat)] = some (.own e, []) := by
  have mL0 : ∀ j, mulOk 883 j = true := fun j => mul_l (by decide)
  have mL1 : ∀ j, mulOk 601 j = true := fun j => mul_l (by decide)
  have mL2 : ∀ j, mulOk 107 j = true := fun j => mul_l (by decide)
  have mR0 : ∀ i, mulOk i 157 = true := fun j => mul_r (by decide)
  have p1 : (0 : Int) < 2305843009213693951 := by decide
  have w1 := powA
  have w2 := powB
  have w3 := powC
  have w4 := @modP
  have bl := b_lenS (ns := ns)
  have lm : 0 + 1 + 1 + 1 ≤ lim := by decide
  by_cases h : k < ns.length
  · have ix := idx_scr h
    have hc : (k : Int) < (ns.length : Nat) := by omega
    obtain ⟨a, b, c, s, hk⟩ : ∃ a b c s, evSs (prg.cf n) b26 [.frz (scriptV ns), .frz (.int (k : Nat)), .emp, .emp, .emp] = .ok (.ret (.own (.list [.int a, .int b, .int c]))) s := by
      unfold b26
      refine ⟨?_, ?_, ?_, ?_, ?_⟩
      rotate_left 4
      · trivial
        rfl
    exact ⟨_, ⟨a, b, c, rfl⟩, by rw [phi_run (d := d26) rfl]; exact run_own rfl (by decide) hk rfl⟩
  · have hc : ¬ (k : Int) < (ns.length : Nat) := by omega
    obtain ⟨a, b, c, s, hk⟩ : ∃ a b c s, evSs (prg.cf n) b26 [.frz (scriptV ns), .frz (.int (k : Nat)), .emp, .emp, .emp] = .ok (.ret (.own (.list [.int a, .int b, .int c]))) s := by
      unfold b26
      clear h
      refine ⟨?_, ?_, ?_, ?_, ?_⟩
      rotate_left 4
      · trivial
        rfl
    exact ⟨_, ⟨a, b, c, rfl⟩, by rw [phi_run (d := d26) rfl]; exact run_own rfl (by decide) hk rfl⟩
theorem ladle (n : Nat) (e : PV) (t : Int) (he : Ew e) (h0 : 0 < t) (h1 : t < 2 ^ 62) : ∃ r e', Ew e' ∧ 0 ≤ r ∧ r < t ∧ prg.Φ (n + 1) 27 [e, .int t] = some (.frz (.int r), [e']) := by
  obtain ⟨a, b, c, rfl⟩ := he
  rw [phi_run (d := d27) rfl]
  have h2 : t < 2 ^ 4000 := Int.lt_trans h1 big62
  by_cases ha : 0 < a
  · refine ⟨a % t, .list [.int (a / t), .int b, .int c], ⟨_, _, _, rfl⟩, Int.emod_nonneg _ (by omega), Int.emod_lt_of_pos _ h0, ?_⟩
    refine run_frz rfl (by decide) (s := [.io (.list [.int (a / t), .int b, .int c]), .frz (.int t), .frz (.int (a % t)), .emp, .emp]) ?_ rfl
    show evSs _ b27 [.io (.list [.int a, .int b, .int c]), .frz (.int t), .emp, .emp, .emp] = _
    unfold b27
    trivial
  · have m1 : ∀ j, mulOk 10001687 j = true := fun j => mul_l (by decide)
    have m2 : ∀ j, mulOk 727 j = true := fun j => mul_l (by decide)
    have m3 : ∀ i, mulOk i 8589934609 = true := fun j => mul_r (by decide)
    have h3 := bigD
    have p1 : (0 : Int) < 2305843009213693951 := by decide
    have p2 : (0 : Int) < 2305843009213693951 := by decide
    have p3 : (0 : Int) < 131072 := by decide
    let one := (b + 10001687 * (c + 1)) % 2305843009213693951
    let two := (one * one + 727 * (c + 1)) % 2305843009213693951 * 8589934609 + one
    have m4 : mulOk ((b + 10001687 * (c + 1)) % 2305843009213693951) ((b + 10001687 * (c + 1)) % 2305843009213693951) = true := mul_l (by omega)
    refine ⟨two / 131072 % t, .list [.int a, .int b, .int (c + 1)], ⟨_, _, _, rfl⟩, Int.emod_nonneg _ (by omega), Int.emod_lt_of_pos _ h0, ?_⟩
    refine run_frz rfl (by decide) (s := [.io (.list [.int a, .int b, .int (c + 1)]), .frz (.int t), .emp, .frz (.int one), .frz (.int two)]) ?_ rfl
    show evSs _ b27 [.io (.list [.int a, .int b, .int c]), .frz (.int t), .emp, .emp, .emp] = _
    unfold b27
    trivial
    try rfl
theorem pick (n : Nat) : PickOk (prg.cf (n + 2)) 28 := by
  refine pick_ok rfl fun e xs he h0 h1 => ?_
  obtain ⟨r, e', he', r0, r1, hd⟩ := ladle n e xs.length he (by omega) (by omega)
  obtain ⟨k, rfl⟩ : ∃ k : Nat, r = (k : Int) := ⟨r.toNat, by omega⟩
  have hk : k < xs.length := by omega
  refine ⟨k, xs[k], e', he', List.getElem?_eq_getElem hk, ?_⟩
  show prg.Φ (n + 2) 28 [e, .list xs] = _
  rw [phi_run (d := d28) rfl]
  refine run_frz rfl (by decide) (s := [.io e', .frz (.list xs)]) ?_ rfl
  show evSs _ b28 [.io e, .frz (.list xs)] = _
  unfold b28
  have hl : prg.lent 27 = [0] := rfl
  have hi : idxOp (.list xs) (.int (k : Nat)) = some xs[k] := i_lN (List.getElem?_eq_getElem hk)
  trivial
theorem rightT : sTrue (prg.cf 10) 28 d30 = true := by decide +kernel
theorem right (e : PV) (he : Ew e) : ∃ e', Ew e' ∧ prg.Φ 11 30 [e] = some (.frz (.bool true), [e']) := by
  rw [phi_run (n := 10) (d := d30) rfl]
  exact sTrue_ok (pick 8) rfl rfl (by decide) rightT e he
theorem law_true (ns : List Int) (h : ns.length ≤ 63) : prg.Φ 12 31 [scriptV ns] = some (.frz (.bool true), []) := by
  rw [phi_run (n := 11) (d := d31) rfl]
  exact law_cells (K := 4) (CR := 26) (R := 30) (pk := 28) (rest := b31.drop 1) (by decide) (by decide) rfl rfl rfl (by decide) (pick 9) rfl rfl (fun k => crock 10 ns k) right (by decide +kernel) h
/-! ### the end of the law -/
section
variable {P : Program}
theorem all_mk {l : PySem.W.OpenLaw} {w : World} {K : PySem.W.Frag} {h : Heap} {mg : Str → Option Value} {fa : Addr} {ts : List Addr} (X : K.In h) (G : h.Ns mainGlobals mg) (hfa : mg "law" = some (.ref fa)) (hts : ∀ q ∈ ts, h.get? q = some tabO)
    {f0 : Addr} {od0 an0 : Option Addr} {sl0 : Array (Option Value)} {oc0 kV0 dc0 pm0 ct0 : Value} {cd0 : Value}
    {f1 : Addr} {od1 an1 : Option Addr} {sl1 : Array (Option Value)} {oc1 kV1 dc1 pm1 ct1 : Value} {cd1 : Value}
    {f2 : Addr} {od2 an2 : Option Addr} {sl2 : Array (Option Value)} {oc2 kV2 dc2 pm2 ct2 : Value} {cd2 : Value}
    {f3 : Addr} {od3 an3 : Option Addr} {sl3 : Array (Option Value)} {oc3 kV3 dc3 pm3 ct3 : Value} {cd3 : Value}
    {f4 : Addr} {od4 an4 : Option Addr} {sl4 : Array (Option Value)} {oc4 kV4 dc4 pm4 ct4 : Value} {cd4 : Value}
    {f5 : Addr} {od5 an5 : Option Addr} {sl5 : Array (Option Value)} {oc5 kV5 dc5 pm5 ct5 : Value} {cd5 : Value}
    {f6 : Addr} {od6 an6 : Option Addr} {sl6 : Array (Option Value)} {oc6 kV6 dc6 pm6 ct6 : Value} {cd6 : Value}
    {f7 : Addr} {od7 an7 : Option Addr} {sl7 : Array (Option Value)} {oc7 kV7 dc7 pm7 ct7 : Value} {cd7 : Value}
    {cc8 : Addr}
    {f8 : Addr} {od8 an8 : Option Addr} {sl8 : Array (Option Value)} {oc8 kV8 dc8 pm8 ct8 : Value}
    {f9 : Addr} {od9 an9 : Option Addr} {sl9 : Array (Option Value)} {oc9 kV9 dc9 pm9 ct9 : Value} {cd9 : Value}
    {f10 : Addr} {od10 an10 : Option Addr} {sl10 : Array (Option Value)} {oc10 kV10 dc10 pm10 ct10 : Value} {cd10 : Value}
    {f11 : Addr} {od11 an11 : Option Addr} {sl11 : Array (Option Value)} {oc11 kV11 dc11 pm11 ct11 : Value} {cd11 : Value}
    {f12 : Addr} {od12 an12 : Option Addr} {sl12 : Array (Option Value)} {oc12 kV12 dc12 pm12 ct12 : Value} {cd12 : Value}
    {f13 : Addr} {od13 an13 : Option Addr} {sl13 : Array (Option Value)} {oc13 kV13 dc13 pm13 ct13 : Value} {cd13 : Value}
    {f14 : Addr} {od14 an14 : Option Addr} {sl14 : Array (Option Value)} {oc14 kV14 dc14 pm14 ct14 : Value} {cd14 : Value}
    {f15 : Addr} {od15 an15 : Option Addr} {sl15 : Array (Option Value)} {oc15 kV15 dc15 pm15 ct15 : Value} {cd15 : Value}
    {f16 : Addr} {od16 an16 : Option Addr} {sl16 : Array (Option Value)} {oc16 kV16 dc16 pm16 ct16 : Value} {cd16 : Value}
    {f17 : Addr} {od17 an17 : Option Addr} {sl17 : Array (Option Value)} {oc17 kV17 dc17 pm17 ct17 : Value} {cd17 : Value}
    {f18 : Addr} {od18 an18 : Option Addr} {sl18 : Array (Option Value)} {oc18 kV18 dc18 pm18 ct18 : Value} {cd18 : Value}
    {f19 : Addr} {od19 an19 : Option Addr} {sl19 : Array (Option Value)} {oc19 kV19 dc19 pm19 ct19 : Value} {cd19 : Value}
    {f20 : Addr} {od20 an20 : Option Addr} {sl20 : Array (Option Value)} {oc20 kV20 dc20 pm20 ct20 : Value} {cd20 : Value}
    {f21 : Addr} {od21 an21 : Option Addr} {sl21 : Array (Option Value)} {oc21 kV21 dc21 pm21 ct21 : Value} {cd21 : Value}
    {f22 : Addr} {od22 an22 : Option Addr} {sl22 : Array (Option Value)} {oc22 kV22 dc22 pm22 ct22 : Value} {cd22 : Value}
    {f23 : Addr} {od23 an23 : Option Addr} {sl23 : Array (Option Value)} {oc23 kV23 dc23 pm23 ct23 : Value} {cd23 : Value}
    {f24 : Addr} {od24 an24 : Option Addr} {sl24 : Array (Option Value)} {oc24 kV24 dc24 pm24 ct24 : Value} {cd24 : Value}
    {f25 : Addr} {od25 an25 : Option Addr} {sl25 : Array (Option Value)} {oc25 kV25 dc25 pm25 ct25 : Value} {cd25 : Value}
    {f26 : Addr} {od26 an26 : Option Addr} {sl26 : Array (Option Value)} {oc26 kV26 dc26 pm26 ct26 : Value} {cd26 : Value}
    {f27 : Addr} {od27 an27 : Option Addr} {sl27 : Array (Option Value)} {oc27 kV27 dc27 pm27 ct27 : Value} {cd27 : Value}
    {f28 : Addr} {od28 an28 : Option Addr} {sl28 : Array (Option Value)} {oc28 kV28 dc28 pm28 ct28 : Value} {cd28 : Value}
    {f29 : Addr} {od29 an29 : Option Addr} {sl29 : Array (Option Value)} {oc29 kV29 dc29 pm29 ct29 : Value} {cd29 : Value}
    {cc30 : Addr}
    {f30 : Addr} {od30 an30 : Option Addr} {sl30 : Array (Option Value)} {oc30 kV30 dc30 pm30 ct30 : Value}
    {f31 : Addr} {od31 an31 : Option Addr} {sl31 : Array (Option Value)} {oc31 kV31 dc31 pm31 ct31 : Value} {cd31 : Value}
    {tk0 : Tok}
    {tk1 : Tok}
    {E0 : Addr}
    {I0 : Addr} {enm0 eq0 : Str} {eN0 : Addr} {ebs0 : List Value} {esn0 : List Str} {esub0 : List Value} {eab0 : Bool} {ecol0 : Option Bool} {edd0 : Option Addr} {em00 em10 em20 em30 em50 : Option Value}
    {ioc0 : Value} {iod0 : Option Addr} {idoc0 ipm0 : Value} {ian0 : Option Addr} {icd0 ict0 : Value} {isl0 : Array (Option Value)} {ip1_0 ip2_0 iq1_0 iq2_0 iq3_0 iq4_0 : Pos}
    {E1 : Addr}
    {E2 : Addr}
    {E3 : Addr}
    {I3 : Addr} {enm3 eq3 : Str} {eN3 : Addr} {ebs3 : List Value} {esn3 : List Str} {esub3 : List Value} {eab3 : Bool} {ecol3 : Option Bool} {edd3 : Option Addr} {em03 em13 em23 em33 em53 : Option Value}
    {ioc3 : Value} {iod3 : Option Addr} {idoc3 ipm3 : Value} {ian3 : Option Addr} {icd3 ict3 : Value} {isl3 : Array (Option Value)} {ip1_3 ip2_3 iq1_3 iq2_3 iq3_3 iq4_3 : Pos}
    (a0 : PySem.W.nsIn K mainGlobals "is_whole_value" = some (some (.ref f0)))
    (l0 : K.lookup f0 = some ⟨oc0, od0, .func (PySem.W.fnOf "is_whole_value" "is_whole_value" (defArgs (topS 9)) (defBody (topS 9)) (defScope (topS 9)) .none kV0 dc0 pm0 an0 cd0 ct0), sl0⟩)
    (c0 : PySem.W.codeIn K cd0 "is_whole_value" = true)
    (k0 : PySem.W.keepIn K (.ref f0) = true)
    (a1 : PySem.W.nsIn K mainGlobals "is_index_below" = some (some (.ref f1)))
    (l1 : K.lookup f1 = some ⟨oc1, od1, .func (PySem.W.fnOf "is_index_below" "is_index_below" (defArgs (topS 10)) (defBody (topS 10)) (defScope (topS 10)) .none kV1 dc1 pm1 an1 cd1 ct1), sl1⟩)
    (c1 : PySem.W.codeIn K cd1 "is_index_below" = true)
    (k1 : PySem.W.keepIn K (.ref f1) = true)
    (a2 : PySem.W.nsIn K mainGlobals "later_masks" = some (some (.ref f2)))
    (l2 : K.lookup f2 = some ⟨oc2, od2, .func (PySem.W.fnOf "later_masks" "later_masks" (defArgs (topS 11)) (defBody (topS 11)) (defScope (topS 11)) .none kV2 dc2 pm2 an2 cd2 ct2), sl2⟩)
    (c2 : PySem.W.codeIn K cd2 "later_masks" = true)
    (k2 : PySem.W.keepIn K (.ref f2) = true)
    (a3 : PySem.W.nsIn K mainGlobals "earlier_masks" = some (some (.ref f3)))
    (l3 : K.lookup f3 = some ⟨oc3, od3, .func (PySem.W.fnOf "earlier_masks" "earlier_masks" (defArgs (topS 12)) (defBody (topS 12)) (defScope (topS 12)) .none kV3 dc3 pm3 an3 cd3 ct3), sl3⟩)
    (c3 : PySem.W.codeIn K cd3 "earlier_masks" = true)
    (k3 : PySem.W.keepIn K (.ref f3) = true)
    (a4 : PySem.W.nsIn K mainGlobals "has_bit" = some (some (.ref f4)))
    (l4 : K.lookup f4 = some ⟨oc4, od4, .func (PySem.W.fnOf "has_bit" "has_bit" (defArgs (topS 13)) (defBody (topS 13)) (defScope (topS 13)) .none kV4 dc4 pm4 an4 cd4 ct4), sl4⟩)
    (c4 : PySem.W.codeIn K cd4 "has_bit" = true)
    (k4 : PySem.W.keepIn K (.ref f4) = true)
    (a5 : PySem.W.nsIn K mainGlobals "tasks_in" = some (some (.ref f5)))
    (l5 : K.lookup f5 = some ⟨oc5, od5, .func (PySem.W.fnOf "tasks_in" "tasks_in" (defArgs (topS 14)) (defBody (topS 14)) (defScope (topS 14)) .none kV5 dc5 pm5 an5 cd5 ct5), sl5⟩)
    (c5 : PySem.W.codeIn K cd5 "tasks_in" = true)
    (k5 : PySem.W.keepIn K (.ref f5) = true)
    (a6 : PySem.W.nsIn K mainGlobals "next_ones" = some (some (.ref f6)))
    (l6 : K.lookup f6 = some ⟨oc6, od6, .func (PySem.W.fnOf "next_ones" "next_ones" (defArgs (topS 15)) (defBody (topS 15)) (defScope (topS 15)) .none kV6 dc6 pm6 an6 cd6 ct6), sl6⟩)
    (c6 : PySem.W.codeIn K cd6 "next_ones" = true)
    (k6 : PySem.W.keepIn K (.ref f6) = true)
    (a7 : PySem.W.nsIn K mainGlobals "labels_of" = some (some (.ref f7)))
    (l7 : K.lookup f7 = some ⟨oc7, od7, .func (PySem.W.fnOf "labels_of" "labels_of" (defArgs (topS 16)) (defBody (topS 16)) (defScope (topS 16)) .none kV7 dc7 pm7 an7 cd7 ct7), sl7⟩)
    (c7 : PySem.W.codeIn K cd7 "labels_of" = true)
    (k7 : PySem.W.keepIn K (.ref f7) = true)
    (a8 : PySem.W.nsIn K mainGlobals "slots_by" = some (some (.ref f8)))
    (l8 : K.lookup f8 = some ⟨oc8, od8, .func (PySem.W.fnOf "slots_by" "slots_by" (defArgs (topS 17)) (defBody (topS 17)) (defScope (topS 17)) .none kV8 dc8 pm8 an8 (.ref cc8) ct8), sl8⟩)
    (c8 : PySem.W.codeIn K (.ref cc8) "slots_by" = true)
    (k8 : PySem.W.keepIn K (.ref f8) = true)
    (h8 : PySem.W.codeHdIn K cc8 (tabOfCode K cc8) = true)
    (n8 : (K.lookup (tabOfCode K cc8)).isNone = true)
    (t8 : ts.contains (tabOfCode K cc8) = true)
    (a9 : PySem.W.nsIn K mainGlobals "lots_by" = some (some (.ref f9)))
    (l9 : K.lookup f9 = some ⟨oc9, od9, .func (PySem.W.fnOf "lots_by" "lots_by" (defArgs (topS 18)) (defBody (topS 18)) (defScope (topS 18)) .none kV9 dc9 pm9 an9 cd9 ct9), sl9⟩)
    (c9 : PySem.W.codeIn K cd9 "lots_by" = true)
    (k9 : PySem.W.keepIn K (.ref f9) = true)
    (a10 : PySem.W.nsIn K mainGlobals "best_in" = some (some (.ref f10)))
    (l10 : K.lookup f10 = some ⟨oc10, od10, .func (PySem.W.fnOf "best_in" "best_in" (defArgs (topS 19)) (defBody (topS 19)) (defScope (topS 19)) .none kV10 dc10 pm10 an10 cd10 ct10), sl10⟩)
    (c10 : PySem.W.codeIn K cd10 "best_in" = true)
    (k10 : PySem.W.keepIn K (.ref f10) = true)
    (a11 : PySem.W.nsIn K mainGlobals "count_of_length" = some (some (.ref f11)))
    (l11 : K.lookup f11 = some ⟨oc11, od11, .func (PySem.W.fnOf "count_of_length" "count_of_length" (defArgs (topS 20)) (defBody (topS 20)) (defScope (topS 20)) .none kV11 dc11 pm11 an11 cd11 ct11), sl11⟩)
    (c11 : PySem.W.codeIn K cd11 "count_of_length" = true)
    (k11 : PySem.W.keepIn K (.ref f11) = true)
    (a12 : PySem.W.nsIn K mainGlobals "most_pairs" = some (some (.ref f12)))
    (l12 : K.lookup f12 = some ⟨oc12, od12, .func (PySem.W.fnOf "most_pairs" "most_pairs" (defArgs (topS 21)) (defBody (topS 21)) (defScope (topS 21)) .none kV12 dc12 pm12 an12 cd12 ct12), sl12⟩)
    (c12 : PySem.W.codeIn K cd12 "most_pairs" = true)
    (k12 : PySem.W.keepIn K (.ref f12) = true)
    (a13 : PySem.W.nsIn K mainGlobals "keeps_slots" = some (some (.ref f13)))
    (l13 : K.lookup f13 = some ⟨oc13, od13, .func (PySem.W.fnOf "keeps_slots" "keeps_slots" (defArgs (topS 22)) (defBody (topS 22)) (defScope (topS 22)) .none kV13 dc13 pm13 an13 cd13 ct13), sl13⟩)
    (c13 : PySem.W.codeIn K cd13 "keeps_slots" = true)
    (k13 : PySem.W.keepIn K (.ref f13) = true)
    (a14 : PySem.W.nsIn K mainGlobals "is_lot_in" = some (some (.ref f14)))
    (l14 : K.lookup f14 = some ⟨oc14, od14, .func (PySem.W.fnOf "is_lot_in" "is_lot_in" (defArgs (topS 23)) (defBody (topS 23)) (defScope (topS 23)) .none kV14 dc14 pm14 an14 cd14 ct14), sl14⟩)
    (c14 : PySem.W.codeIn K cd14 "is_lot_in" = true)
    (k14 : PySem.W.keepIn K (.ref f14) = true)
    (a15 : PySem.W.nsIn K mainGlobals "are_lots" = some (some (.ref f15)))
    (l15 : K.lookup f15 = some ⟨oc15, od15, .func (PySem.W.fnOf "are_lots" "are_lots" (defArgs (topS 24)) (defBody (topS 24)) (defScope (topS 24)) .none kV15 dc15 pm15 an15 cd15 ct15), sl15⟩)
    (c15 : PySem.W.codeIn K cd15 "are_lots" = true)
    (k15 : PySem.W.keepIn K (.ref f15) = true)
    (a16 : PySem.W.nsIn K mainGlobals "shows_least" = some (some (.ref f16)))
    (l16 : K.lookup f16 = some ⟨oc16, od16, .func (PySem.W.fnOf "shows_least" "shows_least" (defArgs (topS 25)) (defBody (topS 25)) (defScope (topS 25)) .none kV16 dc16 pm16 an16 cd16 ct16), sl16⟩)
    (c16 : PySem.W.codeIn K cd16 "shows_least" = true)
    (k16 : PySem.W.keepIn K (.ref f16) = true)
    (a17 : PySem.W.nsIn K mainGlobals "require_tasks_of" = some (some (.ref f17)))
    (l17 : K.lookup f17 = some ⟨oc17, od17, .func (PySem.W.fnOf "require_tasks_of" "require_tasks_of" (defArgs (topS 26)) (defBody (topS 26)) (defScope (topS 26)) .none kV17 dc17 pm17 an17 cd17 ct17), sl17⟩)
    (c17 : PySem.W.codeIn K cd17 "require_tasks_of" = true)
    (k17 : PySem.W.keepIn K (.ref f17) = true)
    (a18 : PySem.W.nsIn K mainGlobals "ahead_pairs" = some (some (.ref f18)))
    (l18 : K.lookup f18 = some ⟨oc18, od18, .func (PySem.W.fnOf "ahead_pairs" "ahead_pairs" (defArgs (topS 27)) (defBody (topS 27)) (defScope (topS 27)) .none kV18 dc18 pm18 an18 cd18 ct18), sl18⟩)
    (c18 : PySem.W.codeIn K cd18 "ahead_pairs" = true)
    (k18 : PySem.W.keepIn K (.ref f18) = true)
    (a19 : PySem.W.nsIn K mainGlobals "is_timetable" = some (some (.ref f19)))
    (l19 : K.lookup f19 = some ⟨oc19, od19, .func (PySem.W.fnOf "is_timetable" "is_timetable" (defArgs (topS 28)) (defBody (topS 28)) (defScope (topS 28)) .none kV19 dc19 pm19 an19 cd19 ct19), sl19⟩)
    (c19 : PySem.W.codeIn K cd19 "is_timetable" = true)
    (k19 : PySem.W.keepIn K (.ref f19) = true)
    (a20 : PySem.W.nsIn K mainGlobals "length_of" = some (some (.ref f20)))
    (l20 : K.lookup f20 = some ⟨oc20, od20, .func (PySem.W.fnOf "length_of" "length_of" (defArgs (topS 29)) (defBody (topS 29)) (defScope (topS 29)) .none kV20 dc20 pm20 an20 cd20 ct20), sl20⟩)
    (c20 : PySem.W.codeIn K cd20 "length_of" = true)
    (k20 : PySem.W.keepIn K (.ref f20) = true)
    (a21 : PySem.W.nsIn K mainGlobals "least_length" = some (some (.ref f21)))
    (l21 : K.lookup f21 = some ⟨oc21, od21, .func (PySem.W.fnOf "least_length" "least_length" (defArgs (topS 30)) (defBody (topS 30)) (defScope (topS 30)) .none kV21 dc21 pm21 an21 cd21 ct21), sl21⟩)
    (c21 : PySem.W.codeIn K cd21 "least_length" = true)
    (k21 : PySem.W.keepIn K (.ref f21) = true)
    (a22 : PySem.W.nsIn K mainGlobals "count_least" = some (some (.ref f22)))
    (l22 : K.lookup f22 = some ⟨oc22, od22, .func (PySem.W.fnOf "count_least" "count_least" (defArgs (topS 31)) (defBody (topS 31)) (defScope (topS 31)) .none kV22 dc22 pm22 an22 cd22 ct22), sl22⟩)
    (c22 : PySem.W.codeIn K cd22 "count_least" = true)
    (k22 : PySem.W.keepIn K (.ref f22) = true)
    (a23 : PySem.W.nsIn K mainGlobals "least_paper" = some (some (.ref f23)))
    (l23 : K.lookup f23 = some ⟨oc23, od23, .func (PySem.W.fnOf "least_paper" "least_paper" (defArgs (topS 32)) (defBody (topS 32)) (defScope (topS 32)) .none kV23 dc23 pm23 an23 cd23 ct23), sl23⟩)
    (c23 : PySem.W.codeIn K cd23 "least_paper" = true)
    (k23 : PySem.W.keepIn K (.ref f23) = true)
    (a24 : PySem.W.nsIn K mainGlobals "is_least_paper" = some (some (.ref f24)))
    (l24 : K.lookup f24 = some ⟨oc24, od24, .func (PySem.W.fnOf "is_least_paper" "is_least_paper" (defArgs (topS 33)) (defBody (topS 33)) (defScope (topS 33)) .none kV24 dc24 pm24 an24 cd24 ct24), sl24⟩)
    (c24 : PySem.W.codeIn K cd24 "is_least_paper" = true)
    (k24 : PySem.W.keepIn K (.ref f24) = true)
    (a25 : PySem.W.nsIn K mainGlobals "greatest_pairs" = some (some (.ref f25)))
    (l25 : K.lookup f25 = some ⟨oc25, od25, .func (PySem.W.fnOf "greatest_pairs" "greatest_pairs" (defArgs (topS 34)) (defBody (topS 34)) (defScope (topS 34)) .none kV25 dc25 pm25 an25 cd25 ct25), sl25⟩)
    (c25 : PySem.W.codeIn K cd25 "greatest_pairs" = true)
    (k25 : PySem.W.keepIn K (.ref f25) = true)
    (a26 : PySem.W.nsIn K mainGlobals "_law_bag" = some (some (.ref f26)))
    (l26 : K.lookup f26 = some ⟨oc26, od26, .func (PySem.W.fnOf "_law_bag" "_law_bag" (defArgs (topS 36)) (defBody (topS 36)) (defScope (topS 36)) .none kV26 dc26 pm26 an26 cd26 ct26), sl26⟩)
    (c26 : PySem.W.codeIn K cd26 "_law_bag" = true)
    (k26 : PySem.W.keepIn K (.ref f26) = true)
    (a27 : PySem.W.nsIn K mainGlobals "_law_pull" = some (some (.ref f27)))
    (l27 : K.lookup f27 = some ⟨oc27, od27, .func (PySem.W.fnOf "_law_pull" "_law_pull" (defArgs (topS 37)) (defBody (topS 37)) (defScope (topS 37)) .none kV27 dc27 pm27 an27 cd27 ct27), sl27⟩)
    (c27 : PySem.W.codeIn K cd27 "_law_pull" = true)
    (k27 : PySem.W.keepIn K (.ref f27) = true)
    (a28 : PySem.W.nsIn K mainGlobals "_law_choose" = some (some (.ref f28)))
    (l28 : K.lookup f28 = some ⟨oc28, od28, .func (PySem.W.fnOf "_law_choose" "_law_choose" (defArgs (topS 38)) (defBody (topS 38)) (defScope (topS 38)) .none kV28 dc28 pm28 an28 cd28 ct28), sl28⟩)
    (c28 : PySem.W.codeIn K cd28 "_law_choose" = true)
    (k28 : PySem.W.keepIn K (.ref f28) = true)
    (a29 : PySem.W.nsIn K mainGlobals "_law_met" = some (some (.ref f29)))
    (l29 : K.lookup f29 = some ⟨oc29, od29, .func (PySem.W.fnOf "_law_met" "_law_met" (defArgs (topS 39)) (defBody (topS 39)) (defScope (topS 39)) .none kV29 dc29 pm29 an29 cd29 ct29), sl29⟩)
    (c29 : PySem.W.codeIn K cd29 "_law_met" = true)
    (k29 : PySem.W.keepIn K (.ref f29) = true)
    (a30 : PySem.W.nsIn K mainGlobals "_law_right" = some (some (.ref f30)))
    (l30 : K.lookup f30 = some ⟨oc30, od30, .func (PySem.W.fnOf "_law_right" "_law_right" (defArgs (topS 40)) (defBody (topS 40)) (defScope (topS 40)) .none kV30 dc30 pm30 an30 (.ref cc30) ct30), sl30⟩)
    (c30 : PySem.W.codeIn K (.ref cc30) "_law_right" = true)
    (k30 : PySem.W.keepIn K (.ref f30) = true)
    (h30 : PySem.W.codeHdIn K cc30 (tabOfCode K cc30) = true)
    (n30 : (K.lookup (tabOfCode K cc30)).isNone = true)
    (t30 : ts.contains (tabOfCode K cc30) = true)
    (a31 : PySem.W.nsIn K mainGlobals "law" = some (some (.ref f31)))
    (l31 : K.lookup f31 = some ⟨oc31, od31, .func (PySem.W.fnOf "law" "law" (defArgs (topS 41)) (defBody (topS 41)) (defScope (topS 41)) .none kV31 dc31 pm31 an31 cd31 ct31), sl31⟩)
    (c31 : PySem.W.codeIn K cd31 "law" = true)
    (k31 : PySem.W.keepIn K (.ref f31) = true)
    (ne1_0 : (tabOfCode K cc30 == tabOfCode K cc8) = false)
    (u0 : PySem.W.nsIn K mainGlobals "LEAST" = some (some (.str "least" tk0)))
    (u1 : PySem.W.nsIn K mainGlobals "MOST_TASKS" = some (some (.int 12 tk1)))
    (z0 : PySem.W.nsIn K mainGlobals "len" = some none)
    (z1 : PySem.W.nsIn K mainGlobals "abs" = some none)
    (z2 : PySem.W.nsIn K mainGlobals "min" = some none)
    (z3 : PySem.W.nsIn K mainGlobals "max" = some none)
    (z4 : PySem.W.nsIn K mainGlobals "sum" = some none)
    (z5 : PySem.W.nsIn K mainGlobals "all" = some none)
    (z6 : PySem.W.nsIn K mainGlobals "any" = some none)
    (z7 : PySem.W.nsIn K mainGlobals "sorted" = some none)
    (z8 : PySem.W.nsIn K mainGlobals "int" = some none)
    (z9 : PySem.W.nsIn K mainGlobals "list" = some none)
    (z10 : PySem.W.nsIn K mainGlobals "tuple" = some none)
    (z11 : PySem.W.nsIn K mainGlobals "repr" = some none)
    (z12 : PySem.W.nsIn K mainGlobals "range" = some none)
    (z13 : PySem.W.nsIn K mainGlobals "enumerate" = some none)
    (z14 : PySem.W.nsIn K mainGlobals "zip" = some none)
    (z15 : PySem.W.nsIn K mainGlobals "isinstance" = some none)
    (z16 : PySem.W.nsIn K mainGlobals "bool" = some none)
    (z17 : PySem.W.nsIn K mainGlobals "str" = some none)
    (z18 : PySem.W.nsIn K mainGlobals "dict" = some none)
    (z19 : PySem.W.nsIn K mainGlobals "set" = some none)
    (ea0 : PySem.W.nsIn K mainGlobals "InvalidNumber" = some (some (.ref E0)))
    (ek0 : PySem.W.keepIn K (.ref E0) = true)
    (es0 : PySem.W.subIn K (.ref E0) (.type "BaseException") = some true)
    (et0 : PySem.W.typeIn K (.ref E0) = some (.type "type"))
    (ec0 : K.lookup E0 = some (excClassObj enm0 eq0 E0 eN0 ebs0 [.type "IndexError", .type "LookupError", .type "Exception", .type "BaseException", .type "object"] true esn0 esub0 eab0 ecol0 edd0 em00 em10 em20 em30 em50 "IndexError.__new__"))
    (esa0 : PySem.W.findIn K (.ref E0) "__setattr__" = some (some (.builtin "object.__setattr__")))
    (ega0 : PySem.W.findIn K (.ref E0) "__getattribute__" = some (some (.builtin "BaseException.__getattribute__")))
    (egg0 : PySem.W.findIn K (.ref E0) "__getattr__" = some none)
    (eno0 : PySem.W.findIn K (.ref E0) "value" = some none)
    (ei0 : PySem.W.findIn K (.ref E0) "__init__" = some (some (.ref I0)))
    (eti0 : PySem.W.typeIn K (.ref I0) = some (.type "function"))
    (ehd0 : PySem.W.hasDictIn K E0 = true)
    (el0 : K.lookup I0 = some ⟨ioc0, iod0, .func (PySem.W.fnOf "__init__" "InvalidNumber.__init__" (PySem.LowG.iA "value" ip1_0 ip2_0) (PySem.LowG.iB "value" iq1_0 iq2_0 iq3_0 iq4_0) (PySem.LowG.iS "value") .none .none idoc0 ipm0 ian0 icd0 ict0), isl0⟩)
    (ecd0 : PySem.W.codeIn K icd0 "InvalidNumber.__init__" = true)
    (ete0 : PySem.W.exmOne K (.ref E0) (.ref E0) = some true)
    (ea1 : PySem.W.nsIn K mainGlobals "InvalidJobs" = some (some (.ref E1)))
    (ek1 : PySem.W.keepIn K (.ref E1) = true)
    (es1 : PySem.W.subIn K (.ref E1) (.type "BaseException") = some true)
    (et1 : PySem.W.typeIn K (.ref E1) = some (.type "type"))
    (ex1 : PySem.W.excIn K E1 [.type "ValueError", .type "Exception", .type "BaseException", .type "object"] "ValueError.__new__" = true)
    (ea2 : PySem.W.nsIn K mainGlobals "InvalidOperation" = some (some (.ref E2)))
    (ek2 : PySem.W.keepIn K (.ref E2) = true)
    (es2 : PySem.W.subIn K (.ref E2) (.type "BaseException") = some true)
    (et2 : PySem.W.typeIn K (.ref E2) = some (.type "type"))
    (ex2 : PySem.W.excIn K E2 [.type "ValueError", .type "Exception", .type "BaseException", .type "object"] "ValueError.__new__" = true)
    (ea3 : PySem.W.nsIn K mainGlobals "TooMany" = some (some (.ref E3)))
    (ek3 : PySem.W.keepIn K (.ref E3) = true)
    (es3 : PySem.W.subIn K (.ref E3) (.type "BaseException") = some true)
    (et3 : PySem.W.typeIn K (.ref E3) = some (.type "type"))
    (ec3 : K.lookup E3 = some (excClassObj enm3 eq3 E3 eN3 ebs3 [.type "OverflowError", .type "ArithmeticError", .type "Exception", .type "BaseException", .type "object"] true esn3 esub3 eab3 ecol3 edd3 em03 em13 em23 em33 em53 "OverflowError.__new__"))
    (esa3 : PySem.W.findIn K (.ref E3) "__setattr__" = some (some (.builtin "object.__setattr__")))
    (ega3 : PySem.W.findIn K (.ref E3) "__getattribute__" = some (some (.builtin "BaseException.__getattribute__")))
    (egg3 : PySem.W.findIn K (.ref E3) "__getattr__" = some none)
    (eno3 : PySem.W.findIn K (.ref E3) "limit" = some none)
    (ei3 : PySem.W.findIn K (.ref E3) "__init__" = some (some (.ref I3)))
    (eti3 : PySem.W.typeIn K (.ref I3) = some (.type "function"))
    (ehd3 : PySem.W.hasDictIn K E3 = true)
    (el3 : K.lookup I3 = some ⟨ioc3, iod3, .func (PySem.W.fnOf "__init__" "TooMany.__init__" (PySem.LowG.iA "limit" ip1_3 ip2_3) (PySem.LowG.iB "limit" iq1_3 iq2_3 iq3_3 iq4_3) (PySem.LowG.iS "limit") .none .none idoc3 ipm3 ian3 icd3 ict3), isl3⟩)
    (ecd3 : PySem.W.codeIn K icd3 "TooMany.__init__" = true)
    (ete3 : PySem.W.exmOne K (.ref E3) (.ref E3) = some true)
    (em0_0 : PySem.W.exmOne K (.ref E0) (.ref E0) = some true)
    (em0_1 : PySem.W.exmOne K (.ref E0) (.ref E1) = some false)
    (em0_2 : PySem.W.exmOne K (.ref E0) (.ref E2) = some false)
    (em0_3 : PySem.W.exmOne K (.ref E0) (.ref E3) = some false)
    (em1_0 : PySem.W.exmOne K (.ref E1) (.ref E0) = some false)
    (em1_1 : PySem.W.exmOne K (.ref E1) (.ref E1) = some true)
    (em1_2 : PySem.W.exmOne K (.ref E1) (.ref E2) = some false)
    (em1_3 : PySem.W.exmOne K (.ref E1) (.ref E3) = some false)
    (em2_0 : PySem.W.exmOne K (.ref E2) (.ref E0) = some false)
    (em2_1 : PySem.W.exmOne K (.ref E2) (.ref E1) = some false)
    (em2_2 : PySem.W.exmOne K (.ref E2) (.ref E2) = some true)
    (em2_3 : PySem.W.exmOne K (.ref E2) (.ref E3) = some false)
    (em3_0 : PySem.W.exmOne K (.ref E3) (.ref E0) = some false)
    (em3_1 : PySem.W.exmOne K (.ref E3) (.ref E1) = some false)
    (em3_2 : PySem.W.exmOne K (.ref E3) (.ref E2) = some false)
    (em3_3 : PySem.W.exmOne K (.ref E3) (.ref E3) = some true)
    : LawG l w K (5 * 12) "script" mg fa h := by
  have e := hfa.symm.trans (PySem.W.mg_of X G a31)
  cases e
  have F0 := fun_mk (st := topS 9) l0 c0 k0
  have B0 : Binds K _ (d0.N.take d0.np) [] := F0.binds (ps := d0.N.take d0.np) fun _ _ _ _ _ _ us hl => match us, hl with | [_], _ => rfl
  have F1 := fun_mk (st := topS 10) l1 c1 k1
  have B1 : Binds K _ (d1.N.take d1.np) [] := F1.binds (ps := d1.N.take d1.np) fun _ _ _ _ _ _ us hl => match us, hl with | [_, _], _ => rfl
  have F2 := fun_mk (st := topS 11) l2 c2 k2
  have B2 : Binds K _ (d2.N.take d2.np) [] := F2.binds (ps := d2.N.take d2.np) fun _ _ _ _ _ _ us hl => match us, hl with | [_, _], _ => rfl
  have F3 := fun_mk (st := topS 12) l3 c3 k3
  have B3 : Binds K _ (d3.N.take d3.np) [] := F3.binds (ps := d3.N.take d3.np) fun _ _ _ _ _ _ us hl => match us, hl with | [_, _], _ => rfl
  have F4 := fun_mk (st := topS 13) l4 c4 k4
  have B4 : Binds K _ (d4.N.take d4.np) [] := F4.binds (ps := d4.N.take d4.np) fun _ _ _ _ _ _ us hl => match us, hl with | [_, _], _ => rfl
  have F5 := fun_mk (st := topS 14) l5 c5 k5
  have B5 : Binds K _ (d5.N.take d5.np) [] := F5.binds (ps := d5.N.take d5.np) fun _ _ _ _ _ _ us hl => match us, hl with | [_, _], _ => rfl
  have F6 := fun_mk (st := topS 15) l6 c6 k6
  have B6 : Binds K _ (d6.N.take d6.np) [] := F6.binds (ps := d6.N.take d6.np) fun _ _ _ _ _ _ us hl => match us, hl with | [_, _], _ => rfl
  have F7 := fun_mk (st := topS 16) l7 c7 k7
  have B7 : Binds K _ (d7.N.take d7.np) [] := F7.binds (ps := d7.N.take d7.np) fun _ _ _ _ _ _ us hl => match us, hl with | [_, _], _ => rfl
  have F8 := fun_mk (st := topS 17) l8 c8 k8
  have B8 : Binds K _ (d8.N.take d8.np) [] := F8.binds (ps := d8.N.take d8.np) fun _ _ _ _ _ _ us hl => match us, hl with | [_, _, _], _ => rfl
  have F9 := fun_mk (st := topS 18) l9 c9 k9
  have B9 : Binds K _ (d9.N.take d9.np) [] := F9.binds (ps := d9.N.take d9.np) fun _ _ _ _ _ _ us hl => match us, hl with | [_, _], _ => rfl
  have F10 := fun_mk (st := topS 19) l10 c10 k10
  have B10 : Binds K _ (d10.N.take d10.np) [] := F10.binds (ps := d10.N.take d10.np) fun _ _ _ _ _ _ us hl => match us, hl with | [_, _], _ => rfl
  have F11 := fun_mk (st := topS 20) l11 c11 k11
  have B11 : Binds K _ (d11.N.take d11.np) [] := F11.binds (ps := d11.N.take d11.np) fun _ _ _ _ _ _ us hl => match us, hl with | [_, _, _], _ => rfl
  have F12 := fun_mk (st := topS 21) l12 c12 k12
  have B12 : Binds K _ (d12.N.take d12.np) [] := F12.binds (ps := d12.N.take d12.np) fun _ _ _ _ _ _ us hl => match us, hl with | [_, _], _ => rfl
  have F13 := fun_mk (st := topS 22) l13 c13 k13
  have B13 : Binds K _ (d13.N.take d13.np) [] := F13.binds (ps := d13.N.take d13.np) fun _ _ _ _ _ _ us hl => match us, hl with | [_, _, _], _ => rfl
  have F14 := fun_mk (st := topS 23) l14 c14 k14
  have B14 : Binds K _ (d14.N.take d14.np) [] := F14.binds (ps := d14.N.take d14.np) fun _ _ _ _ _ _ us hl => match us, hl with | [_, _], _ => rfl
  have F15 := fun_mk (st := topS 24) l15 c15 k15
  have B15 : Binds K _ (d15.N.take d15.np) [] := F15.binds (ps := d15.N.take d15.np) fun _ _ _ _ _ _ us hl => match us, hl with | [_, _, _], _ => rfl
  have F16 := fun_mk (st := topS 25) l16 c16 k16
  have B16 : Binds K _ (d16.N.take d16.np) [] := F16.binds (ps := d16.N.take d16.np) fun _ _ _ _ _ _ us hl => match us, hl with | [_, _, _], _ => rfl
  have F17 := fun_mk (st := topS 26) l17 c17 k17
  have B17 : Binds K _ (d17.N.take d17.np) [] := F17.binds (ps := d17.N.take d17.np) fun _ _ _ _ _ _ us hl => match us, hl with | [_, _], _ => rfl
  have F18 := fun_mk (st := topS 27) l18 c18 k18
  have B18 : Binds K _ (d18.N.take d18.np) [] := F18.binds (ps := d18.N.take d18.np) fun _ _ _ _ _ _ us hl => match us, hl with | [_, _], _ => rfl
  have F19 := fun_mk (st := topS 28) l19 c19 k19
  have B19 : Binds K _ (d19.N.take d19.np) [] := F19.binds (ps := d19.N.take d19.np) fun _ _ _ _ _ _ us hl => match us, hl with | [_, _, _], _ => rfl
  have F20 := fun_mk (st := topS 29) l20 c20 k20
  have B20 : Binds K _ (d20.N.take d20.np) [] := F20.binds (ps := d20.N.take d20.np) fun _ _ _ _ _ _ us hl => match us, hl with | [_, _, _], _ => rfl
  have F21 := fun_mk (st := topS 30) l21 c21 k21
  have B21 : Binds K _ (d21.N.take d21.np) [] := F21.binds (ps := d21.N.take d21.np) fun _ _ _ _ _ _ us hl => match us, hl with | [_, _], _ => rfl
  have F22 := fun_mk (st := topS 31) l22 c22 k22
  have B22 : Binds K _ (d22.N.take d22.np) [] := F22.binds (ps := d22.N.take d22.np) fun _ _ _ _ _ _ us hl => match us, hl with | [_, _], _ => rfl
  have F23 := fun_mk (st := topS 32) l23 c23 k23
  have B23 : Binds K _ (d23.N.take d23.np) [] := F23.binds (ps := d23.N.take d23.np) fun _ _ _ _ _ _ us hl => match us, hl with | [_, _], _ => rfl
  have F24 := fun_mk (st := topS 33) l24 c24 k24
  have B24 : Binds K _ (d24.N.take d24.np) [] := F24.binds (ps := d24.N.take d24.np) fun _ _ _ _ _ _ us hl => match us, hl with | [_, _, _], _ => rfl
  have F25 := fun_mk (st := topS 34) l25 c25 k25
  have B25 : Binds K _ (d25.N.take d25.np) [] := F25.binds (ps := d25.N.take d25.np) fun _ _ _ _ _ _ us hl => match us, hl with | [_, _], _ => rfl
  have F26 := fun_mk (st := topS 36) l26 c26 k26
  have B26 : Binds K _ (d26.N.take d26.np) [] := F26.binds (ps := d26.N.take d26.np) fun _ _ _ _ _ _ us hl => match us, hl with | [_, _], _ => rfl
  have F27 := fun_mk (st := topS 37) l27 c27 k27
  have B27 : Binds K _ (d27.N.take d27.np) [] := F27.binds (ps := d27.N.take d27.np) fun _ _ _ _ _ _ us hl => match us, hl with | [_, _], _ => rfl
  have F28 := fun_mk (st := topS 38) l28 c28 k28
  have B28 : Binds K _ (d28.N.take d28.np) [] := F28.binds (ps := d28.N.take d28.np) fun _ _ _ _ _ _ us hl => match us, hl with | [_, _], _ => rfl
  have F29 := fun_mk (st := topS 39) l29 c29 k29
  have B29 : Binds K _ (d29.N.take d29.np) [] := F29.binds (ps := d29.N.take d29.np) fun _ _ _ _ _ _ us hl => match us, hl with | [_], _ => rfl
  have F30 := fun_mk (st := topS 40) l30 c30 k30
  have B30 : Binds K _ (d30.N.take d30.np) [] := F30.binds (ps := d30.N.take d30.np) fun _ _ _ _ _ _ us hl => match us, hl with | [_], _ => rfl
  have F31 := fun_mk (st := topS 41) l31 c31 k31
  have B31 : Binds K _ (d31.N.take d31.np) [] := F31.binds (ps := d31.N.take d31.np) fun _ _ _ _ _ _ us hl => match us, hl with | [_], _ => rfl
  let γ : Gt := ⟨[(tabOfCode K cc8, "slots_by" ++ ".<locals>." ++ "<lambda>"), (tabOfCode K cc30, "_law_right" ++ ".<locals>." ++ "<lambda>")], fun q => match q with | 0 => some f0 | 1 => some f1 | 2 => some f2 | 3 => some f3 | 4 => some f4 | 5 => some f5 | 6 => some f6 | 7 => some f7 | 8 => some f8 | 9 => some f9 | 10 => some f10 | 11 => some f11 | 12 => some f12 | 13 => some f13 | 14 => some f14 | 15 => some f15 | 16 => some f16 | 17 => some f17 | 18 => some f18 | 19 => some f19 | 20 => some f20 | 21 => some f21 | 22 => some f22 | 23 => some f23 | 24 => some f24 | 25 => some f25 | 26 => some f26 | 27 => some f27 | 28 => some f28 | 29 => some f29 | _ => none, [(E0, some "value"), (E1, none), (E2, none), (E3, some "limit")]⟩
  refine ⟨PySem.W.fnOf "law" "law" (defArgs (topS 41)) (defBody (topS 41)) (defScope (topS 41)) .none kV31 dc31 pm31 an31 cd31 ct31, d31.gd, [(cc8, tabOfCode K cc8), (cc30, tabOfCode K cc30)], spF K γ prg 12 31, fun q hq => ?_, fun s v => .of_eq rfl, fun H a ns hl hT hS => law_spec (fun q hq => ?_) hS rfl (law_true ns hl), fun base hb hg hTB => ?_⟩
  · simp only [List.mem_cons, List.not_mem_nil, or_false] at hq
    rcases hq with rfl | rfl
    · exact ⟨hts _ (by simpa using t8), by simpa using n8, PySem.W.codeHd_of_K X h8⟩
    · exact ⟨hts _ (by simpa using t30), by simpa using n30, PySem.W.codeHd_of_K X h30⟩
  · simp only [γ, List.mem_cons, List.not_mem_nil, or_false] at hq
    rcases hq with rfl | rfl
    · exact LamX.TabS.nil (hT (cc8, tabOfCode K cc8) (by simp))
    · exact LamX.TabS.nil (hT (cc30, tabOfCode K cc30) (by simp))
  have L30 : LamD d30 mg base γ (PySem.W.fnOf "_law_right" "_law_right" (defArgs (topS 40)) (defBody (topS 40)) (defScope (topS 40)) .none kV30 dc30 pm30 an30 (.ref cc30) ct30) := fun _ => ⟨cc30, tabOfCode K cc30, rfl, hTB (cc30, tabOfCode K cc30) (by simp), by simp [γ, d30], by
      intro q hq e
      simp only [γ, List.mem_cons, List.not_mem_nil, or_false] at hq
      rcases hq with rfl | rfl
      · exact absurd (Eq.symm e) (ne_of_beq_false ne1_0)
      · exact rfl⟩
  have L8 : LamD d8 mg base γ (PySem.W.fnOf "slots_by" "slots_by" (defArgs (topS 17)) (defBody (topS 17)) (defScope (topS 17)) .none kV8 dc8 pm8 an8 (.ref cc8) ct8) := fun _ => ⟨cc8, tabOfCode K cc8, rfl, hTB (cc8, tabOfCode K cc8) (by simp), by simp [γ, d8], by
      intro q hq e
      simp only [γ, List.mem_cons, List.not_mem_nil, or_false] at hq
      rcases hq with rfl | rfl
      · exact rfl
      · exact absurd e (ne_of_beq_false ne1_0)⟩
  have W : WF prg l.prog w K mg base γ fns gs xs mets gds [topS 9, topS 10, topS 11, topS 12, topS 13, topS 14, topS 15, topS 16, topS 17, topS 18, topS 19, topS 20, topS 21, topS 22, topS 23, topS 24, topS 25, topS 26, topS 27, topS 28, topS 29, topS 30, topS 31, topS 32, topS 33, topS 34, topS 36, topS 37, topS 38, topS 39, topS 40, topS 41] := by
    refine ⟨fun x hx => ?_, fun g x d h1 h2 => ?_, rfl, fun g x h1 h2 => ?_, fun g fa h1 => ?_, gdkT, fun k y fo h1 => ?_, fun m d h1 => ?_, fun k j C D fo go h1 h2 => ?_, (.cons F0 (PySem.W.mg_of X G a0) (fun z => by cases z) B0 sc0 ok0 (.cons F1 (PySem.W.mg_of X G a1) (fun z => by cases z) B1 sc1 ok1 (.cons F2 (PySem.W.mg_of X G a2) (fun z => by cases z) B2 sc2 ok2 (.cons F3 (PySem.W.mg_of X G a3) (fun z => by cases z) B3 sc3 ok3 (.cons F4 (PySem.W.mg_of X G a4) (fun z => by cases z) B4 sc4 ok4 (.cons F5 (PySem.W.mg_of X G a5) (fun z => by cases z) B5 sc5 ok5 (.cons F6 (PySem.W.mg_of X G a6) (fun z => by cases z) B6 sc6 ok6 (.cons F7 (PySem.W.mg_of X G a7) (fun z => by cases z) B7 sc7 ok7 (.cons F8 (PySem.W.mg_of X G a8) L8 B8 sc8 ok8 (.cons F9 (PySem.W.mg_of X G a9) (fun z => by cases z) B9 sc9 ok9 (.cons F10 (PySem.W.mg_of X G a10) (fun z => by cases z) B10 sc10 ok10 (.cons F11 (PySem.W.mg_of X G a11) (fun z => by cases z) B11 sc11 ok11 (.cons F12 (PySem.W.mg_of X G a12) (fun z => by cases z) B12 sc12 ok12 (.cons F13 (PySem.W.mg_of X G a13) (fun z => by cases z) B13 sc13 ok13 (.cons F14 (PySem.W.mg_of X G a14) (fun z => by cases z) B14 sc14 ok14 (.cons F15 (PySem.W.mg_of X G a15) (fun z => by cases z) B15 sc15 ok15 (.cons F16 (PySem.W.mg_of X G a16) (fun z => by cases z) B16 sc16 ok16 (.cons F17 (PySem.W.mg_of X G a17) (fun z => by cases z) B17 sc17 ok17 (.cons F18 (PySem.W.mg_of X G a18) (fun z => by cases z) B18 sc18 ok18 (.cons F19 (PySem.W.mg_of X G a19) (fun z => by cases z) B19 sc19 ok19 (.cons F20 (PySem.W.mg_of X G a20) (fun z => by cases z) B20 sc20 ok20 (.cons F21 (PySem.W.mg_of X G a21) (fun z => by cases z) B21 sc21 ok21 (.cons F22 (PySem.W.mg_of X G a22) (fun z => by cases z) B22 sc22 ok22 (.cons F23 (PySem.W.mg_of X G a23) (fun z => by cases z) B23 sc23 ok23 (.cons F24 (PySem.W.mg_of X G a24) (fun z => by cases z) B24 sc24 ok24 (.cons F25 (PySem.W.mg_of X G a25) (fun z => by cases z) B25 sc25 ok25 (.cons F26 (PySem.W.mg_of X G a26) (fun z => by cases z) B26 sc26 ok26 (.cons F27 (PySem.W.mg_of X G a27) (fun z => by cases z) B27 sc27 ok27 (.cons F28 (PySem.W.mg_of X G a28) (fun z => by cases z) B28 sc28 ok28 (.cons F29 (PySem.W.mg_of X G a29) (fun z => by cases z) B29 sc29 ok29 (.cons F30 (PySem.W.mg_of X G a30) L30 B30 sc30 ok30 (.cons F31 (PySem.W.mg_of X G a31) (fun z => by cases z) B31 sc31 ok31 .nil))))))))))))))))))))))))))))))))⟩
    · simp only [bltNames, List.mem_cons, List.not_mem_nil, or_false] at hx
      rcases hx with rfl | rfl | rfl | rfl | rfl | rfl | rfl | rfl | rfl | rfl | rfl | rfl | rfl | rfl | rfl | rfl | rfl | rfl | rfl | rfl
      · exact PySem.W.mg_none_of X G z0
      · exact PySem.W.mg_none_of X G z1
      · exact PySem.W.mg_none_of X G z2
      · exact PySem.W.mg_none_of X G z3
      · exact PySem.W.mg_none_of X G z4
      · exact PySem.W.mg_none_of X G z5
      · exact PySem.W.mg_none_of X G z6
      · exact PySem.W.mg_none_of X G z7
      · exact PySem.W.mg_none_of X G z8
      · exact PySem.W.mg_none_of X G z9
      · exact PySem.W.mg_none_of X G z10
      · exact PySem.W.mg_none_of X G z11
      · exact PySem.W.mg_none_of X G z12
      · exact PySem.W.mg_none_of X G z13
      · exact PySem.W.mg_none_of X G z14
      · exact PySem.W.mg_none_of X G z15
      · exact PySem.W.mg_none_of X G z16
      · exact PySem.W.mg_none_of X G z17
      · exact PySem.W.mg_none_of X G z18
      · exact PySem.W.mg_none_of X G z19
    · match g, h1, h2 with
      | 0, h1, h2 => cases h1; cases h2; exact ⟨.str "least", .str "least" tk0, PySem.W.mg_of X G u0, ⟨_, rfl⟩, fun H => .str _⟩
      | 1, h1, h2 => cases h1; cases h2; exact ⟨.int (12), .int (12) tk1, PySem.W.mg_of X G u1, ⟨_, rfl⟩, fun H => .int _⟩
      | g + 2, h1, h2 => simp [gs] at h1
    · match g, h1, h2 with
      | 0, h1, h2 => cases h1; exact ⟨_, PySem.W.mg_of X G a0, rfl⟩
      | 1, h1, h2 => cases h1; exact ⟨_, PySem.W.mg_of X G a1, rfl⟩
      | 2, h1, h2 => cases h1; exact ⟨_, PySem.W.mg_of X G a2, rfl⟩
      | 3, h1, h2 => cases h1; exact ⟨_, PySem.W.mg_of X G a3, rfl⟩
      | 4, h1, h2 => cases h1; exact ⟨_, PySem.W.mg_of X G a4, rfl⟩
      | 5, h1, h2 => cases h1; exact ⟨_, PySem.W.mg_of X G a5, rfl⟩
      | 6, h1, h2 => cases h1; exact ⟨_, PySem.W.mg_of X G a6, rfl⟩
      | 7, h1, h2 => cases h1; exact ⟨_, PySem.W.mg_of X G a7, rfl⟩
      | 8, h1, h2 => cases h1; exact ⟨_, PySem.W.mg_of X G a8, rfl⟩
      | 9, h1, h2 => cases h1; exact ⟨_, PySem.W.mg_of X G a9, rfl⟩
      | 10, h1, h2 => cases h1; exact ⟨_, PySem.W.mg_of X G a10, rfl⟩
      | 11, h1, h2 => cases h1; exact ⟨_, PySem.W.mg_of X G a11, rfl⟩
      | 12, h1, h2 => cases h1; exact ⟨_, PySem.W.mg_of X G a12, rfl⟩
      | 13, h1, h2 => cases h1; exact ⟨_, PySem.W.mg_of X G a13, rfl⟩
      | 14, h1, h2 => cases h1; exact ⟨_, PySem.W.mg_of X G a14, rfl⟩
      | 15, h1, h2 => cases h1; exact ⟨_, PySem.W.mg_of X G a15, rfl⟩
      | 16, h1, h2 => cases h1; exact ⟨_, PySem.W.mg_of X G a16, rfl⟩
      | 17, h1, h2 => cases h1; exact ⟨_, PySem.W.mg_of X G a17, rfl⟩
      | 18, h1, h2 => cases h1; exact ⟨_, PySem.W.mg_of X G a18, rfl⟩
      | 19, h1, h2 => cases h1; exact ⟨_, PySem.W.mg_of X G a19, rfl⟩
      | 20, h1, h2 => cases h1; exact ⟨_, PySem.W.mg_of X G a20, rfl⟩
      | 21, h1, h2 => cases h1; exact ⟨_, PySem.W.mg_of X G a21, rfl⟩
      | 22, h1, h2 => cases h1; exact ⟨_, PySem.W.mg_of X G a22, rfl⟩
      | 23, h1, h2 => cases h1; exact ⟨_, PySem.W.mg_of X G a23, rfl⟩
      | 24, h1, h2 => cases h1; exact ⟨_, PySem.W.mg_of X G a24, rfl⟩
      | 25, h1, h2 => cases h1; exact ⟨_, PySem.W.mg_of X G a25, rfl⟩
      | 26, h1, h2 => cases h1; exact ⟨_, PySem.W.mg_of X G a26, rfl⟩
      | 27, h1, h2 => cases h1; exact ⟨_, PySem.W.mg_of X G a27, rfl⟩
      | 28, h1, h2 => cases h1; exact ⟨_, PySem.W.mg_of X G a28, rfl⟩
      | 29, h1, h2 => cases h1; exact ⟨_, PySem.W.mg_of X G a29, rfl⟩
      | 30, h1, h2 => exact absurd h2 (by decide)
      | 31, h1, h2 => exact absurd h2 (by decide)
      | g + 32, h1, h2 => simp [fns] at h1
    · match g, h1 with
      | 0, h1 => exact ⟨_, rfl, by decide⟩
      | 1, h1 => exact ⟨_, rfl, by decide⟩
      | 2, h1 => exact ⟨_, rfl, by decide⟩
      | 3, h1 => exact ⟨_, rfl, by decide⟩
      | 4, h1 => exact ⟨_, rfl, by decide⟩
      | 5, h1 => exact ⟨_, rfl, by decide⟩
      | 6, h1 => exact ⟨_, rfl, by decide⟩
      | 7, h1 => exact ⟨_, rfl, by decide⟩
      | 8, h1 => exact ⟨_, rfl, by decide⟩
      | 9, h1 => exact ⟨_, rfl, by decide⟩
      | 10, h1 => exact ⟨_, rfl, by decide⟩
      | 11, h1 => exact ⟨_, rfl, by decide⟩
      | 12, h1 => exact ⟨_, rfl, by decide⟩
      | 13, h1 => exact ⟨_, rfl, by decide⟩
      | 14, h1 => exact ⟨_, rfl, by decide⟩
      | 15, h1 => exact ⟨_, rfl, by decide⟩
      | 16, h1 => exact ⟨_, rfl, by decide⟩
      | 17, h1 => exact ⟨_, rfl, by decide⟩
      | 18, h1 => exact ⟨_, rfl, by decide⟩
      | 19, h1 => exact ⟨_, rfl, by decide⟩
      | 20, h1 => exact ⟨_, rfl, by decide⟩
      | 21, h1 => exact ⟨_, rfl, by decide⟩
      | 22, h1 => exact ⟨_, rfl, by decide⟩
      | 23, h1 => exact ⟨_, rfl, by decide⟩
      | 24, h1 => exact ⟨_, rfl, by decide⟩
      | 25, h1 => exact ⟨_, rfl, by decide⟩
      | 26, h1 => exact ⟨_, rfl, by decide⟩
      | 27, h1 => exact ⟨_, rfl, by decide⟩
      | 28, h1 => exact ⟨_, rfl, by decide⟩
      | 29, h1 => exact ⟨_, rfl, by decide⟩
      | 30, h1 => cases h1
      | 31, h1 => cases h1
      | g + 32, h1 => cases h1
    · match k, h1 with
      | 0, h1 => cases h1; exact ⟨E0, rfl, (.low ⟨PySem.W.mg_of X G ea0, ⟨_, PySem.LowG.tail_index, _, _, _, _, _, _, _, _, _, _, _, _, _, _, _, ec0, .tail⟩, esa0, ega0, egg0, eno0, ei0, eti0, ek0, es0, et0, ehd0, ete0, ⟨_, _, _, _, _, _, _, _, _, _, _, _, _, _, el0, ecd0⟩, .inl rfl⟩)⟩
      | 1, h1 => cases h1; exact ⟨E1, rfl, (.plain PySem.F.excBase_ValueError ex1 (PySem.W.mg_of X G ea1) ek1 es1 et1)⟩
      | 2, h1 => cases h1; exact ⟨E2, rfl, (.plain PySem.F.excBase_ValueError ex2 (PySem.W.mg_of X G ea2) ek2 es2 et2)⟩
      | 3, h1 => cases h1; exact ⟨E3, rfl, (.low ⟨PySem.W.mg_of X G ea3, ⟨_, PySem.LowG.tail_over, _, _, _, _, _, _, _, _, _, _, _, _, _, _, _, ec3, .tail⟩, esa3, ega3, egg3, eno3, ei3, eti3, ek3, es3, et3, ehd3, ete3, ⟨_, _, _, _, _, _, _, _, _, _, _, _, _, _, el3, ecd3⟩, .inr rfl⟩)⟩
      | k + 4, h1 => simp [xs] at h1
    · cases h1
      exact ⟨"_law_met", d29.N, "call", topS 39, f29, _, rfl, by decide, PySem.W.mg_of X G a29, F29, B29, sc29, rfl, by decide, okM⟩
    · match k, j, h1, h2 with
      | 0, 0, h1, h2 => cases h1; cases h2; exact em0_0
      | 0, 1, h1, h2 => cases h1; cases h2; exact em0_1
      | 0, 2, h1, h2 => cases h1; cases h2; exact em0_2
      | 0, 3, h1, h2 => cases h1; cases h2; exact em0_3
      | 1, 0, h1, h2 => cases h1; cases h2; exact em1_0
      | 1, 1, h1, h2 => cases h1; cases h2; exact em1_1
      | 1, 2, h1, h2 => cases h1; cases h2; exact em1_2
      | 1, 3, h1, h2 => cases h1; cases h2; exact em1_3
      | 2, 0, h1, h2 => cases h1; cases h2; exact em2_0
      | 2, 1, h1, h2 => cases h1; cases h2; exact em2_1
      | 2, 2, h1, h2 => cases h1; cases h2; exact em2_2
      | 2, 3, h1, h2 => cases h1; cases h2; exact em2_3
      | 3, 0, h1, h2 => cases h1; cases h2; exact em3_0
      | 3, 1, h1, h2 => cases h1; cases h2; exact em3_1
      | 3, 2, h1, h2 => cases h1; cases h2; exact em3_2
      | 3, 3, h1, h2 => cases h1; cases h2; exact em3_3
      | k + 4, _, h1, _ => simp [γ] at h1
      | _, j + 4, _, h2 => simp [γ] at h2
  exact law_at (d := d31) W rfl (PySem.W.mg_of X G a31) rfl F31
end
end Lk26
open PySem PySem.W PyProof.Rows
set_option maxHeartbeats 0 in
theorem PySem.Challenge.cw_loadwide_k26_errors_of_two_hands_holds : PySem.Challenge.rw_loadwide_k26_errors_of_two_hands.Holds := by
  w_on; o_law; k_head; (case hw => w_witness2)
  k_fill
  refine Ev.walk_gd (l := PySem.Challenge.rw_loadwide_k26_errors_of_two_hands) (k := 5 * 12) (x := "script") rfl rfl ⟨rfl, by decide, by decide⟩ (fun w h Y => PySem.W.km_in_of Y) ?F
  case F =>
    intro w mg fa h Y KX G hmg
    refine' Lk26.all_mk KX G hmg (PySem.W.km_tabs_of Y) ?a0 ?l0 ?c0 ?k0 ?a1 ?l1 ?c1 ?k1 ?a2 ?l2 ?c2 ?k2 ?a3 ?l3 ?c3 ?k3 ?a4 ?l4 ?c4 ?k4 ?a5 ?l5 ?c5 ?k5 ?a6 ?l6 ?c6 ?k6 ?a7 ?l7 ?c7 ?k7 ?a8 ?l8 ?c8 ?k8 ?h8 ?n8 ?t8 ?a9 ?l9 ?c9 ?k9 ?a10 ?l10 ?c10 ?k10 ?a11 ?l11 ?c11 ?k11 ?a12 ?l12 ?c12 ?k12 ?a13 ?l13 ?c13 ?k13 ?a14 ?l14 ?c14 ?k14 ?a15 ?l15 ?c15 ?k15 ?a16 ?l16 ?c16 ?k16 ?a17 ?l17 ?c17 ?k17 ?a18 ?l18 ?c18 ?k18 ?a19 ?l19 ?c19 ?k19 ?a20 ?l20 ?c20 ?k20 ?a21 ?l21 ?c21 ?k21 ?a22 ?l22 ?c22 ?k22 ?a23 ?l23 ?c23 ?k23 ?a24 ?l24 ?c24 ?k24 ?a25 ?l25 ?c25 ?k25 ?a26 ?l26 ?c26 ?k26 ?a27 ?l27 ?c27 ?k27 ?a28 ?l28 ?c28 ?k28 ?a29 ?l29 ?c29 ?k29 ?a30 ?l30 ?c30 ?k30 ?h30 ?n30 ?t30 ?a31 ?l31 ?c31 ?k31 ?ne1_0 ?u0 ?u1 ?z0 ?z1 ?z2 ?z3 ?z4 ?z5 ?z6 ?z7 ?z8 ?z9 ?z10 ?z11 ?z12 ?z13 ?z14 ?z15 ?z16 ?z17 ?z18 ?z19 ?ea0 ?ek0 ?es0 ?et0 ?ec0 ?esa0 ?ega0 ?egg0 ?eno0 ?ei0 ?eti0 ?ehd0 ?el0 ?ecd0 ?ete0 ?ea1 ?ek1 ?es1 ?et1 ?ex1 ?ea2 ?ek2 ?es2 ?et2 ?ex2 ?ea3 ?ek3 ?es3 ?et3 ?ec3 ?esa3 ?ega3 ?egg3 ?eno3 ?ei3 ?eti3 ?ehd3 ?el3 ?ecd3 ?ete3 ?em0_0 ?em0_1 ?em0_2 ?em0_3 ?em1_0 ?em1_1 ?em1_2 ?em1_3 ?em2_0 ?em2_1 ?em2_2 ?em2_3 ?em3_0 ?em3_1 ?em3_2 ?em3_3
    (case a0 => first | k_is | rfl | kernel_rfl)
    (case l0 => first | k_is | rfl | kernel_rfl)
    (case c0 => first | k_is | rfl | kernel_rfl)
    (case k0 => first | k_is | rfl | kernel_rfl)
    (case a1 => first | k_is | rfl | kernel_rfl)
    (case l1 => first | k_is | rfl | kernel_rfl)
    (case c1 => first | k_is | rfl | kernel_rfl)
    (case k1 => first | k_is | rfl | kernel_rfl)
    (case a2 => first | k_is | rfl | kernel_rfl)
    (case l2 => first | k_is | rfl | kernel_rfl)
    (case c2 => first | k_is | rfl | kernel_rfl)
    (case k2 => first | k_is | rfl | kernel_rfl)
    (case a3 => first | k_is | rfl | kernel_rfl)
    (case l3 => first | k_is | rfl | kernel_rfl)
    (case c3 => first | k_is | rfl | kernel_rfl)
    (case k3 => first | k_is | rfl | kernel_rfl)
    (case a4 => first | k_is | rfl | kernel_rfl)
    (case l4 => first | k_is | rfl | kernel_rfl)
    (case c4 => first | k_is | rfl | kernel_rfl)
    (case k4 => first | k_is | rfl | kernel_rfl)
    (case a5 => first | k_is | rfl | kernel_rfl)
    (case l5 => first | k_is | rfl | kernel_rfl)
    (case c5 => first | k_is | rfl | kernel_rfl)
    (case k5 => first | k_is | rfl | kernel_rfl)
    (case a6 => first | k_is | rfl | kernel_rfl)
    (case l6 => first | k_is | rfl | kernel_rfl)
    (case c6 => first | k_is | rfl | kernel_rfl)
    (case k6 => first | k_is | rfl | kernel_rfl)
    (case a7 => first | k_is | rfl | kernel_rfl)
    (case l7 => first | k_is | rfl | kernel_rfl)
    (case c7 => first | k_is | rfl | kernel_rfl)
    (case k7 => first | k_is | rfl | kernel_rfl)
    (case a8 => first | k_is | rfl | kernel_rfl)
    (case l8 => first | k_is | rfl | kernel_rfl)
    (case c8 => first | k_is | rfl | kernel_rfl)
    (case k8 => first | k_is | rfl | kernel_rfl)
    (case h8 => first | k_is | rfl | kernel_rfl)
    (case n8 => first | k_is | rfl | kernel_rfl)
    (case t8 => first | k_is | rfl | kernel_rfl)
    (case a9 => first | k_is | rfl | kernel_rfl)
    (case l9 => first | k_is | rfl | kernel_rfl)
    (case c9 => first | k_is | rfl | kernel_rfl)
    (case k9 => first | k_is | rfl | kernel_rfl)
    (case a10 => first | k_is | rfl | kernel_rfl)
    (case l10 => first | k_is | rfl | kernel_rfl)
    (case c10 => first | k_is | rfl | kernel_rfl)
    (case k10 => first | k_is | rfl | kernel_rfl)
    (case a11 => first | k_is | rfl | kernel_rfl)
    (case l11 => first | k_is | rfl | kernel_rfl)
    (case c11 => first | k_is | rfl | kernel_rfl)
    (case k11 => first | k_is | rfl | kernel_rfl)
    (case a12 => first | k_is | rfl | kernel_rfl)
    (case l12 => first | k_is | rfl | kernel_rfl)
    (case c12 => first | k_is | rfl | kernel_rfl)
    (case k12 => first | k_is | rfl | kernel_rfl)
    (case a13 => first | k_is | rfl | kernel_rfl)
    (case l13 => first | k_is | rfl | kernel_rfl)
    (case c13 => first | k_is | rfl | kernel_rfl)
    (case k13 => first | k_is | rfl | kernel_rfl)
    (case a14 => first | k_is | rfl | kernel_rfl)
    (case l14 => first | k_is | rfl | kernel_rfl)
    (case c14 => first | k_is | rfl | kernel_rfl)
    (case k14 => first | k_is | rfl | kernel_rfl)
    (case a15 => first | k_is | rfl | kernel_rfl)
    (case l15 => first | k_is | rfl | kernel_rfl)
    (case c15 => first | k_is | rfl | kernel_rfl)
    (case k15 => first | k_is | rfl | kernel_rfl)
    (case a16 => first | k_is | rfl | kernel_rfl)
    (case l16 => first | k_is | rfl | kernel_rfl)
    (case c16 => first | k_is | rfl | kernel_rfl)
    (case k16 => first | k_is | rfl | kernel_rfl)
    (case a17 => first | k_is | rfl | kernel_rfl)
    (case l17 => first | k_is | rfl | kernel_rfl)
    (case c17 => first | k_is | rfl | kernel_rfl)
    (case k17 => first | k_is | rfl | kernel_rfl)
    (case a18 => first | k_is | rfl | kernel_rfl)
    (case l18 => first | k_is | rfl | kernel_rfl)
    (case c18 => first | k_is | rfl | kernel_rfl)
    (case k18 => first | k_is | rfl | kernel_rfl)
    (case a19 => first | k_is | rfl | kernel_rfl)
    (case l19 => first | k_is | rfl | kernel_rfl)
    (case c19 => first | k_is | rfl | kernel_rfl)
    (case k19 => first | k_is | rfl | kernel_rfl)
    (case a20 => first | k_is | rfl | kernel_rfl)
    (case l20 => first | k_is | rfl | kernel_rfl)
    (case c20 => first | k_is | rfl | kernel_rfl)
    (case k20 => first | k_is | rfl | kernel_rfl)
    (case a21 => first | k_is | rfl | kernel_rfl)
    (case l21 => first | k_is | rfl | kernel_rfl)
    (case c21 => first | k_is | rfl | kernel_rfl)
    (case k21 => first | k_is | rfl | kernel_rfl)
    (case a22 => first | k_is | rfl | kernel_rfl)
    (case l22 => first | k_is | rfl | kernel_rfl)
    (case c22 => first | k_is | rfl | kernel_rfl)
    (case k22 => first | k_is | rfl | kernel_rfl)
    (case a23 => first | k_is | rfl | kernel_rfl)
    (case l23 => first | k_is | rfl | kernel_rfl)
    (case c23 => first | k_is | rfl | kernel_rfl)
    (case k23 => first | k_is | rfl | kernel_rfl)
    (case a24 => first | k_is | rfl | kernel_rfl)
    (case l24 => first | k_is | rfl | kernel_rfl)
    (case c24 => first | k_is | rfl | kernel_rfl)
    (case k24 => first | k_is | rfl | kernel_rfl)
    (case a25 => first | k_is | rfl | kernel_rfl)
    (case l25 => first | k_is | rfl | kernel_rfl)
    (case c25 => first | k_is | rfl | kernel_rfl)
    (case k25 => first | k_is | rfl | kernel_rfl)
    (case a26 => first | k_is | rfl | kernel_rfl)
    (case l26 => first | k_is | rfl | kernel_rfl)
    (case c26 => first | k_is | rfl | kernel_rfl)
    (case k26 => first | k_is | rfl | kernel_rfl)
    (case a27 => first | k_is | rfl | kernel_rfl)
    (case l27 => first | k_is | rfl | kernel_rfl)
    (case c27 => first | k_is | rfl | kernel_rfl)
    (case k27 => first | k_is | rfl | kernel_rfl)
    (case a28 => first | k_is | rfl | kernel_rfl)
    (case l28 => first | k_is | rfl | kernel_rfl)
    (case c28 => first | k_is | rfl | kernel_rfl)
    (case k28 => first | k_is | rfl | kernel_rfl)
    (case a29 => first | k_is | rfl | kernel_rfl)
    (case l29 => first | k_is | rfl | kernel_rfl)
    (case c29 => first | k_is | rfl | kernel_rfl)
    (case k29 => first | k_is | rfl | kernel_rfl)
    (case a30 => first | k_is | rfl | kernel_rfl)
    (case l30 => first | k_is | rfl | kernel_rfl)
    (case c30 => first | k_is | rfl | kernel_rfl)
    (case k30 => first | k_is | rfl | kernel_rfl)
    (case h30 => first | k_is | rfl | kernel_rfl)
    (case n30 => first | k_is | rfl | kernel_rfl)
    (case t30 => first | k_is | rfl | kernel_rfl)
    (case a31 => first | k_is | rfl | kernel_rfl)
    (case l31 => first | k_is | rfl | kernel_rfl)
    (case c31 => first | k_is | rfl | kernel_rfl)
    (case k31 => first | k_is | rfl | kernel_rfl)
    (case ne1_0 => first | k_is | rfl | kernel_rfl)
    (case u0 => first | k_is | rfl | kernel_rfl)
    (case u1 => first | k_is | rfl | kernel_rfl)
    (case z0 => first | k_is | rfl | kernel_rfl)
    (case z1 => first | k_is | rfl | kernel_rfl)
    (case z2 => first | k_is | rfl | kernel_rfl)
    (case z3 => first | k_is | rfl | kernel_rfl)
    (case z4 => first | k_is | rfl | kernel_rfl)
    (case z5 => first | k_is | rfl | kernel_rfl)
    (case z6 => first | k_is | rfl | kernel_rfl)
    (case z7 => first | k_is | rfl | kernel_rfl)
    (case z8 => first | k_is | rfl | kernel_rfl)
    (case z9 => first | k_is | rfl | kernel_rfl)
    (case z10 => first | k_is | rfl | kernel_rfl)
    (case z11 => first | k_is | rfl | kernel_rfl)
    (case z12 => first | k_is | rfl | kernel_rfl)
    (case z13 => first | k_is | rfl | kernel_rfl)
    (case z14 => first | k_is | rfl | kernel_rfl)
    (case z15 => first | k_is | rfl | kernel_rfl)
    (case z16 => first | k_is | rfl | kernel_rfl)
    (case z17 => first | k_is | rfl | kernel_rfl)
    (case z18 => first | k_is | rfl | kernel_rfl)
    (case z19 => first | k_is | rfl | kernel_rfl)
    (case ea0 => first | k_is | rfl | kernel_rfl)
    (case ek0 => first | k_is | rfl | kernel_rfl)
    (case es0 => first | k_is | rfl | kernel_rfl)
    (case et0 => first | k_is | rfl | kernel_rfl)
    (case ec0 => first | k_is | rfl | kernel_rfl)
    (case esa0 => first | k_is | rfl | kernel_rfl)
    (case ega0 => first | k_is | rfl | kernel_rfl)
    (case egg0 => first | k_is | rfl | kernel_rfl)
    (case eno0 => first | k_is | rfl | kernel_rfl)
    (case ei0 => first | k_is | rfl | kernel_rfl)
    (case eti0 => first | k_is | rfl | kernel_rfl)
    (case ehd0 => first | k_is | rfl | kernel_rfl)
    (case el0 => first | k_is | rfl | kernel_rfl)
    (case ecd0 => first | k_is | rfl | kernel_rfl)
    (case ete0 => first | k_is | rfl | kernel_rfl)
    (case ea1 => first | k_is | rfl | kernel_rfl)
    (case ek1 => first | k_is | rfl | kernel_rfl)
    (case es1 => first | k_is | rfl | kernel_rfl)
    (case et1 => first | k_is | rfl | kernel_rfl)
    (case ex1 => k_exc)
    (case ea2 => first | k_is | rfl | kernel_rfl)
    (case ek2 => first | k_is | rfl | kernel_rfl)
    (case es2 => first | k_is | rfl | kernel_rfl)
    (case et2 => first | k_is | rfl | kernel_rfl)
    (case ex2 => k_exc)
    (case ea3 => first | k_is | rfl | kernel_rfl)
    (case ek3 => first | k_is | rfl | kernel_rfl)
    (case es3 => first | k_is | rfl | kernel_rfl)
    (case et3 => first | k_is | rfl | kernel_rfl)
    (case ec3 => first | k_is | rfl | kernel_rfl)
    (case esa3 => first | k_is | rfl | kernel_rfl)
    (case ega3 => first | k_is | rfl | kernel_rfl)
    (case egg3 => first | k_is | rfl | kernel_rfl)
    (case eno3 => first | k_is | rfl | kernel_rfl)
    (case ei3 => first | k_is | rfl | kernel_rfl)
    (case eti3 => first | k_is | rfl | kernel_rfl)
    (case ehd3 => first | k_is | rfl | kernel_rfl)
    (case el3 => first | k_is | rfl | kernel_rfl)
    (case ecd3 => first | k_is | rfl | kernel_rfl)
    (case ete3 => first | k_is | rfl | kernel_rfl)
    (case em0_0 => first | k_is | rfl | kernel_rfl)
    (case em0_1 => first | k_is | rfl | kernel_rfl)
    (case em0_2 => first | k_is | rfl | kernel_rfl)
    (case em0_3 => first | k_is | rfl | kernel_rfl)
    (case em1_0 => first | k_is | rfl | kernel_rfl)
    (case em1_1 => first | k_is | rfl | kernel_rfl)
    (case em1_2 => first | k_is | rfl | kernel_rfl)
    (case em1_3 => first | k_is | rfl | kernel_rfl)
    (case em2_0 => first | k_is | rfl | kernel_rfl)
    (case em2_1 => first | k_is | rfl | kernel_rfl)
    (case em2_2 => first | k_is | rfl | kernel_rfl)
    (case em2_3 => first | k_is | rfl | kernel_rfl)
    (case em3_0 => first | k_is | rfl | kernel_rfl)
    (case em3_1 => first | k_is | rfl | kernel_rfl)
    (case em3_2 => first | k_is | rfl | kernel_rfl)
    (case em3_3 => first | k_is | rfl | kernel_rfl)
