import PyProof.Rows.All
import Wide.All
import OpenK.AllK
import Wide.FinOn
import PySem.PyData
import PyProof.Claim2
import PyProof.P3Statements
import PyProof.EqLayable
import KE.SortData
import HandS.List
import HandS.ForMost
import HandS.Star
import HandS.TupMul
import HandS.TupAny
import HandS.IsInst
import HandS.Style
import HandS.Conv
import HandS.Deep
import HandS.SetFor
import HandS.Zip
import HandS.RaiseMore
import HandS.Wide
import HandS.TupLe
import HandS.SortInts
import HandS.Flow
import KE.IntBitsLaws
import KE.SortKeyHeap
import KE.GoesMore
import PyProof.EnumMake
import PyProof.Draws
import HandS.WideMore
import HandS.Words
import KE.KEqDeep
import PySem.Challenge.RW_loadwide_k76_whole_sums_of_weighted_ends
set_option Elab.async false
set_option linter.all false
set_option maxRecDepth 100000
set_option maxHeartbeats 4000000
set_option autoImplicit false
/-! Ev1: a small evaluator over plain data (the value semantics that the laws' defs have). -/
namespace Ev
open PySem
abbrev PV := PyData
/-- the largest length -/
def lim : Nat := 16777216

/-- a local name: nothing; a value that nobody changes; a list or dict of this name alone; such a one that the caller lent -/
inductive Slot where
  | emp | frz (v : PV) | own (v : PV) | io (v : PV)
abbrev Env := List Slot
/-- what an expression gives: a value; a new list or dict; the thing a name holds, as it stands -/
inductive Rv where
  | frz (v : PV) | own (v : PV) | slot (i : Nat)

/-- the outcome: a result and the names behind it; an exception; nothing told -/
inductive RE (α : Type) where
  | ok (a : α) (s : Env) | exc (c : Nat) (v : PV) | stuck
abbrev M (α : Type) := Env → RE α
def M.pure {α : Type} (a : α) : M α := fun s => .ok a s
def RE.andThen {α β : Type} (r : RE α) (f : α → M β) : RE β := match r with
  | .ok a s => f a s
  | .exc c v => .exc c v
  | .stuck => .stuck
def M.bind {α β : Type} (m : M α) (f : α → M β) : M β := fun s => (m s).andThen f
def M.stuck {α : Type} : M α := fun _ => .stuck
def M.opt {α : Type} (o : Option α) : M α := fun s => match o with
  | some a => .ok a s
  | none => .stuck
instance : Monad M where
  pure := M.pure
  bind := M.bind
theorem bind_def {α β : Type} (m : M α) (f : α → M β) (s : Env) : (m >>= f) s = (m s).andThen f := rfl
theorem pure_def {α : Type} (a : α) (s : Env) : (pure a : M α) s = .ok a s := rfl
theorem andThen_ok {α β : Type} (a : α) (s : Env) (f : α → M β) : (RE.ok a s).andThen f = f a s := rfl
theorem andThen_stuck {α β : Type} (f : α → M β) : (RE.stuck : RE α).andThen f = .stuck := rfl
theorem opt_some {α : Type} (a : α) (s : Env) : M.opt (some a) s = .ok a s := rfl
theorem opt_none {α : Type} (s : Env) : M.opt (none : Option α) s = .stuck := rfl
theorem stuck_def {α : Type} (s : Env) : (M.stuck : M α) s = .stuck := rfl
/-- what an .ok behind a bind means -/
theorem RE.andThen_inv {α β : Type} {r : RE α} {f : α → M β} {b : β} {s : Env} (h : r.andThen f = .ok b s) : ∃ a s1, r = .ok a s1 ∧ f a s1 = .ok b s := by
  cases r with
  | ok a s1 => exact ⟨a, s1, rfl, h⟩
  | exc c v => cases h
  | stuck => cases h
theorem bind_inv {α β : Type} {m : M α} {f : α → M β} {b : β} {s s' : Env} (h : (m >>= f) s = .ok b s') : ∃ a s1, m s = .ok a s1 ∧ f a s1 = .ok b s' := RE.andThen_inv h
theorem opt_inv {α : Type} {o : Option α} {a : α} {s s' : Env} (h : M.opt o s = .ok a s') : o = some a ∧ s' = s := by
  cases o with
  | none => cases h
  | some b => injection h with h1 h2; exact ⟨by rw [h1], h2.symm⟩
theorem pure_inv {α : Type} {a b : α} {s s' : Env} (h : (pure a : M α) s = .ok b s') : b = a ∧ s' = s := by
  injection h with h1 h2; exact ⟨h1.symm, h2.symm⟩

/-- the script, as its own kind of thing: nothing but len and items -/
def scriptV (ns : List Int) : PV := .dict [(.none, .list (ns.map .int))]

/-! ### names -/
def flat : PV → Bool
  | .none => true | .bool _ => true | .int _ => true | .str _ => true
  | _ => false
def slotVal : Slot → Option PV
  | .emp => none
  | .frz v => some v
  | .own v => some v
  | .io v => some v
/-- a name's value as it stands -/
def look (i : Nat) : M PV := fun s => M.opt ((s[i]?).bind slotVal) s
/-- a name read for good: what it holds is never changed from here on -/
def mVar (i : Nat) : M Rv := fun s => match s[i]? with
  | some (.frz v) => .ok (.frz v) s
  | some (.own v) => .ok (.frz v) (s.set i (.frz v))
  | _ => .stuck
/-- a name read for the last time -/
def mMv (i : Nat) : M Rv := fun s => match s[i]? with
  | some (.frz v) => .ok (.frz v) s
  | some (.own v) => .ok (.own v) (s.set i .emp)
  | _ => .stuck
def mPeek (i : Nat) : M Rv := fun s => match s[i]? with
  | some (.frz v) => .ok (.frz v) s
  | some (.own _) => .ok (.slot i) s
  | some (.io _) => .ok (.slot i) s
  | _ => .stuck
/-- an operand's value -/
def opd : Rv → M PV
  | .frz v => pure v
  | .own v => pure v
  | .slot i => look i
/-- a value for good -/
def fz : Rv → M PV
  | .frz v => pure v
  | .own v => pure v
  | .slot _ => M.stuck
def opds : List Rv → M (List PV)
  | [] => pure []
  | r :: rs => do let v ← opd r; let vs ← opds rs; pure (v :: vs)
def fzs : List Rv → M (List PV)
  | [] => pure []
  | r :: rs => do let v ← fz r; let vs ← fzs rs; pure (v :: vs)
/-- a name stored -/
def store (i : Nat) (r : Rv) : M Unit := fun s => match s[i]?, r with
  | some (.io _), _ => .stuck
  | none, _ => .stuck
  | some _, .frz v => .ok () (s.set i (.frz v))
  | some _, .own v => .ok () (s.set i (.own v))
  | some _, .slot _ => .stuck

/-! ### operators -/
def ints? : List PV → Option (List Int)
  | [] => some []
  | .int i :: r => (ints? r).map (i :: ·)
  | _ :: _ => none
def bools? : List PV → Option (List Bool)
  | [] => some []
  | .bool b :: r => (bools? r).map (b :: ·)
  | _ :: _ => none
def mulOk (i j : Int) : Bool := decide (i.natAbs < 2 ^ 64) || decide (j.natAbs < 2 ^ 64) || (decide (i.natAbs < 2 ^ 4000) && decide (j.natAbs < 2 ^ 4000))
def powOk (i j : Int) : Bool := decide (0 ≤ j) && decide (j ≤ 1000) && decide (i.natAbs < 2 ^ 1000)
def binOp : Operator → PV → PV → Option Rv
  | .Add, .int i, .int j => some (.frz (.int (i + j)))
  | .Add, .tuple xs, .tuple ys => if xs.length + ys.length ≤ lim then some (.frz (.tuple (xs ++ ys))) else none
  | .Add, .list xs, .list ys => if xs.length + ys.length ≤ lim then some (.own (.list (xs ++ ys))) else none
  | .Sub, .int i, .int j => some (.frz (.int (i - j)))
  | .Mult, .int i, .int j => if mulOk i j then some (.frz (.int (i * j))) else none
  | .Mult, .tuple xs, .int k => if xs ≠ [] ∧ 2 ≤ k ∧ k ≤ 1000 ∧ xs.length ≤ 1000 then some (.frz (.tuple (List.replicate k.toNat xs).flatten)) else none
  | .FloorDiv, .int i, .int j => if 0 < j ∧ j < 2 ^ 4000 then some (.frz (.int (i / j))) else none
  | .Mod, .int i, .int j => if 0 < j then some (.frz (.int (i % j))) else none
  | .Pow, .int i, .int j => if powOk i j then some (.frz (.int (i ^ j.toNat))) else none
  | _, _, _ => none
def eqOp (a b : PV) : Option Bool := if SeqAt.shaped a && SeqAt.shaped b then some (PyData.eqv a b) else none
def inOp (x : PV) : PV → Option Bool
  | .list ys => if SeqAt.shaped x && SeqAt.shaped (.list ys) then some (ys.any fun y => PyData.eqv y x) else none
  | .tuple ys => if flat x && ys.all flat then some (ys.any fun y => PyData.eqv y x) else none
  | _ => none
def isNone : PV → Bool
  | .none => true
  | _ => false
def cmpOp : CmpOp → PV → PV → Option Bool
  | .Eq, a, b => eqOp a b
  | .NotEq, a, b => (eqOp a b).map (!·)
  | .Lt, .int i, .int j => some (decide (i < j))
  | .LtE, .int i, .int j => some (decide (i ≤ j))
  | .Gt, .int i, .int j => some (decide (j < i))
  | .GtE, .int i, .int j => some (decide (j ≤ i))
  | .Is, a, .none => some (isNone a)
  | .IsNot, a, .none => some (!isNone a)
  | .Is, .bool a, .bool b => some (a == b)
  | .IsNot, .bool a, .bool b => some (!(a == b))
  | .In, a, b => inOp a b
  | .NotIn, a, b => (inOp a b).map (!·)
  | _, _, _ => none
def truth : PV → Option Bool
  | .none => some false
  | .bool b => some b
  | .int i => some (decide (i ≠ 0))
  | .str s => if s.length ≤ lim then some (decide ((s.length : Int) ≠ 0)) else none
  | .list xs => some (!xs.isEmpty)
  | .tuple xs => some (!xs.isEmpty)
  | .dict [(.none, _)] => none
  | .dict kvs => some (!kvs.isEmpty)
/-- built-in classes -/
inductive Ty where
  | int | bool | str | tuple | list | dict
  deriving DecidableEq
def Ty.name : Ty → String
  | .int => "int" | .bool => "bool" | .str => "str" | .tuple => "tuple" | .list => "list" | .dict => "dict"
def isScript : PV → Bool
  | .dict [(.none, _)] => true
  | _ => false
def isiB : Ty → PV → Bool
  | .int, .int _ => true | .int, .bool _ => true | .bool, .bool _ => true | .str, .str _ => true
  | .tuple, .tuple _ => true | .list, .list _ => true | .dict, .dict _ => true
  | _, _ => false
/-- isinstance(v, T) -/
def isiOp (T : Ty) (d : PV) : Option Bool := if isScript d then none else some (isiB T d)

/-- the place of an index -/
def ixN (n : Nat) (i : Int) : Option Nat := if 0 ≤ i then (if i < n then some i.toNat else none) else if -(n : Int) ≤ i then some (i + n).toNat else none
def idxOp : PV → PV → Option PV
  | .list xs, .int i => (ixN xs.length i).bind fun j => xs[j]?
  | .tuple xs, .int i => (ixN xs.length i).bind fun j => xs[j]?
  | .dict [(.none, .list xs)], .int i => (ixN xs.length i).bind fun j => xs[j]?
  | _, _ => none
/-- a slice's bound -/
def sIx (n d : Nat) : Option Int → Nat
  | none => d
  | some v => if v < 0 then (v + (n : Int)).toNat else min v.toNat n
def cut {α : Type} (xs : List α) (lo hi : Option Int) : List α := (xs.drop (sIx xs.length 0 lo)).take (sIx xs.length xs.length hi - sIx xs.length 0 lo)
def slcOp (lo hi : Option Int) : PV → Option Rv
  | .list xs => some (.own (.list (cut xs lo hi)))
  | .tuple xs => some (.frz (.tuple (cut xs lo hi)))
  | _ => none

inductive Blt where
  | len | abs | min2 | max2 | mn | mx | sum | all | any | sorted | int | list | tuple | repr
  deriving DecidableEq
/-! no dict within -/
mutual
def plain : PV → Bool
  | .none => true | .bool _ => true | .int _ => true | .str _ => true
  | .list xs => plains xs
  | .tuple xs => plains xs
  | .dict _ => false
def plains : List PV → Bool
  | [] => true
  | x :: xs => plain x && plains xs
end
/-- alike keys, as sorting wants them -/
def sortable (ds : List PV) : Bool := (ds.all fun d => ds.all fun e => W.alike d e) && ((ds.all fun d => match d with | .tuple (_ :: _) => true | _ => false) || (ds.all fun d => match d with | .none => false | .tuple _ => false | _ => true)) && (ds.all fun d => decide (d.depth ≤ 60)) && plains ds
def seq? : PV → Option (List PV)
  | .list xs => some xs
  | .tuple xs => some xs
  | _ => none
def bltOp : Blt → List PV → Option Rv
  | .len, [.list xs] => some (.frz (.int xs.length))
  | .len, [.tuple xs] => some (.frz (.int xs.length))
  | .len, [.dict [(.none, .list xs)]] => some (.frz (.int xs.length))
  | .len, [.dict kvs] => some (.frz (.int kvs.length))
  | .abs, [.int i] => some (.frz (.int (if i < 0 then -i else i)))
  | .min2, [.int i, .int j] => some (.frz (.int (if j < i then j else i)))
  | .max2, [.int i, .int j] => some (.frz (.int (if j > i then j else i)))
  | .mn, [.list xs] => (ints? xs).bind fun ns => ns.min?.map fun m => .frz (.int m)
  | .mx, [.list xs] => (ints? xs).bind fun ns => ns.max?.map fun m => .frz (.int m)
  | .sum, [.list xs] => (ints? xs).map fun ns => .frz (.int ns.sum)
  | .all, [.list xs] => (bools? xs).map fun bs => .frz (.bool (bs.all id))
  | .any, [.list xs] => (bools? xs).map fun bs => .frz (.bool (bs.any id))
  | .sorted, [x] => (seq? x).bind fun ds => if sortable ds then some (.own (.list (ds.mergeSort (W.dataLe false id)))) else none
  | .int, [.int i] => some (.frz (.int i))
  | .int, [.bool b] => some (.frz (.int (if b then 1 else 0)))
  | .list, [x] => (seq? x).map fun xs => .own (.list xs)
  | .tuple, [x] => (seq? x).map fun xs => .frz (.tuple xs)
  | .repr, [.bool b] => some (.frz (.str (if b then "True" else "False")))
  | _, _ => none
def isListV : PV → Bool
  | .list _ => true
  | _ => false
inductive Mth where
  | count | index
  deriving DecidableEq
def mthOp : Mth → PV → List PV → Option Rv
  | .count, .list xs, [.int k] => (ints? xs).map fun ns => .frz (.int (ns.count k : Nat))
  | .index, .list xs, [y] => if SeqAt.shaped (.list xs) && SeqAt.shaped y then (xs.findIdx? fun z => PyData.eqv z y).map fun j => .frz (.int (j : Nat)) else none
  | _, _, _ => none
inductive Mu where
  | append | extend
  deriving DecidableEq
def muOp : Mu → PV → List PV → Option PV
  | .append, .list xs, [y] => if xs.length < lim then some (.list (xs ++ [y])) else none
  | .extend, .list xs, [.list ys] => if xs.length + ys.length ≤ lim then some (.list (xs ++ ys)) else none
  | _, _, _ => none
/-- x[k] = v -/
def setOp : PV → PV → PV → Option PV
  | .list xs, .int k, v => (ixN xs.length k).map fun j => .list (xs.set j v)
  | _, _, _ => none

/-! ### what is walked -/
inductive ItK where
  | val | rng | enm | zip
  deriving DecidableEq
def rngItems : List PV → Option (List PV)
  | [.int n] => if -(2 ^ 62) ≤ n ∧ n ≤ lim then some ((List.range n.toNat).map fun i => .int (i : Nat)) else none
  | [.int lo, .int hi] => if -(2 ^ 62) ≤ lo ∧ lo < 2 ^ 62 ∧ hi - lo ≤ lim ∧ -(2 ^ 62) ≤ hi ∧ hi < 2 ^ 62 then some ((List.range (hi - lo).toNat).map fun i => .int (lo + (i : Nat))) else none
  | _ => none
def valItems : List PV → Option (List PV)
  | [x] => seq? x
  | _ => none
def enmItems : List PV → Option (List PV)
  | [x] => (seq? x).map fun xs => xs.zipIdx.map fun p => .tuple [.int (p.2 : Nat), p.1]
  | _ => none
def zipItems : List PV → Option (List PV)
  | [.list xs, .list ys] => some (List.zipWith (fun a b => .tuple [a, b]) xs ys)
  | [.tuple xs, .tuple ys] => some (List.zipWith (fun a b => .tuple [a, b]) xs ys)
  | _ => none
def items : ItK → List PV → Option (List PV)
  | .val => valItems
  | .rng => rngItems
  | .enm => enmItems
  | .zip => zipItems

/-! ### syntax -/
inductive Tg where
  | name (i : Nat) | tup (ts : List Tg)
mutual
def bindT : Tg → PV → M Unit
  | .name i, v => store i (.frz v)
  | .tup ts, v => match v with
    | .tuple vs => if vs.length = ts.length then bindTs ts vs else M.stuck
    | _ => M.stuck
def bindTs : List Tg → List PV → M Unit
  | [], _ => pure ()
  | t :: ts, v :: vs => do bindT t v; bindTs ts vs
  | _ :: _, [] => M.stuck
end
inductive E where
  | cint (i : Int) | cbl (b : Bool) | cnon | cstr (s : Str)
  | var (i : Nat) | mv (i : Nat) | peek (i : Nat) | glb (g : Nat)
  | bin (op : Operator) (a b : E) | neg (a : E) | not (a : E) | bop (op : BoolOp) (es : List E)
  | cmp (op : CmpOp) (a b : E) | chain (o1 o2 : CmpOp) (a b c : E) | ite (c a b : E)
  | tup (es : List E) | lst (es : List E) | dct0 | star (e : E)
  | idx (a i : E) | slcL (a lo : E) | slcH (a hi : E) | slcLH (a lo hi : E)
  | isi (T : Ty) (a : E) | blt (b : Blt) (es : List E) | lrng (es : List E) | mth (m : Mth) (o : E) (es : List E)
  | call (f : Nat) (es : List E)
  | lc (own : List (Str × Nat)) (elt : E) (tg : Tg) (k : ItK) (its : List E) (ifs : List E)
  | lc2 (own : List (Str × Nat)) (elt : E) (tg : Tg) (k : ItK) (its : List E) (ifs : List E) (tg1 : Tg) (k1 : ItK) (its1 : List E) (ifs1 : List E)

/-- a program's defs, by number: the arguments to the result and what the lent arguments hold behind it -/
abbrev FEnv := Nat → List PV → Option (Rv × List PV)
structure Cf where
  Φ : FEnv
  /-- the places of the lent parameters of each def -/
  lent : Nat → List Nat
  /-- the module's constants -/
  G : List PV

/-- the arguments of a call: values, and the names that are lent -/
def passOne (lent : List Nat) (k : Nat) (r : Rv) : M (PV × List Nat) := fun s =>
  if lent.contains k then
    match r with
    | .slot i => match s[i]? with
      | some (.own v) => .ok (v, [i]) s
      | some (.io v) => .ok (v, [i]) s
      | _ => .stuck
    | _ => .stuck
  else (fz r >>= fun v => pure (v, [])) s
def passArgs (lent : List Nat) : Nat → List Rv → M (List PV × List Nat)
  | _, [] => pure ([], [])
  | k, r :: rs => do
    let p ← passOne lent k r
    let q ← passArgs lent (k + 1) rs
    pure (p.1 :: q.1, p.2 ++ q.2)
def giveBack : List Nat → List PV → M Unit
  | [], [] => pure ()
  | i :: is, v :: vs => fun s => match s[i]? with
    | some (.own _) => giveBack is vs (s.set i (.own v))
    | some (.io _) => giveBack is vs (s.set i (.io v))
    | _ => .stuck
  | _, _ => M.stuck
def callFn (c : Cf) (f : Nat) (rs : List Rv) : M Rv := do
  let p ← passArgs (c.lent f) 0 rs
  if p.2.Nodup then
    let r ← M.opt (c.Φ f p.1)
    giveBack p.2 r.2
    pure r.1
  else M.stuck

/-- the slots of a comprehension's own names -/
def hideable : Slot → Bool
  | .emp => true | .frz _ => true | _ => false
def hide (vs : List Nat) (s : Env) : Env := vs.foldl (fun s i => s.set i .emp) s
def hideM (vs : List Nat) : M Unit := fun s =>
  if vs.all (fun i => (s[i]?.map hideable).getD false) then .ok () (hide vs s) else .stuck
/-- a comprehension's turns: each with its own names empty -/
def lcLoop (vs : List Nat) (f : PV → M (Option PV)) : List PV → List PV → M (List PV)
  | [], acc => pure acc
  | x :: xs, acc => do
    let r ← f x
    hideM vs
    lcLoop vs f xs (match r with | some v => acc ++ [v] | none => acc)
def restore (vs : List Nat) (s0 s : Env) : Env := vs.foldl (fun s i => s.set i (s0.getD i .emp)) s
def lcAll (vs : List Nat) (f : PV → M (Option PV)) (xs : List PV) : M Rv := fun s0 =>
  ((do hideM vs; lcLoop vs f xs []) s0).andThen fun acc s => .ok (.own (.list acc)) (restore vs s0 s)

mutual
def ev (c : Cf) : E → M Rv
  | .cint i => pure (.frz (.int i))
  | .cbl b => pure (.frz (.bool b))
  | .cnon => pure (.frz .none)
  | .cstr z => pure (.frz (.str z))
  | .var i => mVar i
  | .mv i => mMv i
  | .peek i => mPeek i
  | .glb g => M.opt ((c.G[g]?).map .frz)
  | .bin op a b => do let x ← ev c a; let y ← ev c b; let u ← opd x; let v ← opd y; M.opt (binOp op u v)
  | .neg a => do let x ← ev c a; let u ← opd x; (match u with | .int i => pure (.frz (.int (-i))) | _ => M.stuck)
  | .not a => do let x ← ev c a; let u ← opd x; let b ← M.opt (truth u); pure (.frz (.bool (!b)))
  | .bop op es => evB c op es
  | .cmp op a b => do let x ← ev c a; let y ← ev c b; let u ← opd x; let v ← opd y; let r ← M.opt (cmpOp op u v); pure (.frz (.bool r))
  | .chain o1 o2 a b d => do
    let x ← ev c a; let y ← ev c b; let u ← opd x; let v ← fz y
    let r ← M.opt (cmpOp o1 u v)
    if r then do let z ← ev c d; let w ← opd z; let r2 ← M.opt (cmpOp o2 v w); pure (.frz (.bool r2))
    else pure (.frz (.bool false))
  | .ite t a b => do let x ← ev c t; let u ← opd x; let k ← M.opt (truth u); if k then ev c a else ev c b
  | .tup es => do let rs ← evA c es; let vs ← fzs rs; if vs.length ≤ lim then pure (.frz (.tuple vs)) else M.stuck
  | .lst es => do let rs ← evA c es; let vs ← fzs rs; if vs.length ≤ lim then pure (.own (.list vs)) else M.stuck
  | .dct0 => pure (.own (.dict []))
  | .star _ => M.stuck
  | .idx a i => do let x ← ev c a; let y ← ev c i; let u ← opd x; let v ← opd y; let r ← M.opt (idxOp u v); pure (.frz r)
  | .slcL a lo => do let x ← ev c a; let y ← ev c lo; let u ← opd x; let v ← fz y; (match v with | .int i => M.opt (slcOp (some i) none u) | _ => M.stuck)
  | .slcH a hi => do let x ← ev c a; let y ← ev c hi; let u ← opd x; let v ← fz y; (match v with | .int i => M.opt (slcOp none (some i) u) | _ => M.stuck)
  | .slcLH a lo hi => do
    let x ← ev c a; let y ← ev c lo; let z ← ev c hi; let u ← opd x; let v ← fz y; let w ← fz z
    (match v, w with | .int i, .int j => M.opt (slcOp (some i) (some j) u) | _, _ => M.stuck)
  | .isi T a => do let x ← ev c a; let u ← opd x; let b ← M.opt (isiOp T u); pure (.frz (.bool b))
  | .blt b es => do let rs ← evs c es; let vs ← opds rs; M.opt (bltOp b vs)
  | .lrng es => do let rs ← evs c es; let vs ← fzs rs; let xs ← M.opt (items .rng vs); pure (.own (.list xs))
  | .mth m o es => do let x ← ev c o; let u0 ← opd x; if isListV u0 then (do let rs ← evs c es; let u ← opd x; let vs ← opds rs; M.opt (mthOp m u vs)) else M.stuck
  | .call f es => do let rs ← evs c es; callFn c f rs
  | .lc own elt tg k its ifs => do
    let rs ← evs c its; let vs ← fzs rs; let xs ← M.opt (items k vs)
    lcAll (own.map (·.2)) (fun x => do
      bindT tg x
      let b ← evT c ifs
      if b then do let r ← ev c elt; let v ← fz r; pure (some v) else pure none) xs
  | .lc2 own elt tg k its ifs tg1 k1 its1 ifs1 => M.stuck
/-- and, or: all but the last True or False -/
def evB (c : Cf) (op : BoolOp) : List E → M Rv
  | [] => M.stuck
  | [e] => do let r ← ev c e; let v ← fz r; pure (.frz v)
  | e :: es => do
    let x ← ev c e
    let u ← opd x
    match u, op with
    | .bool false, .And => pure (.frz (.bool false))
    | .bool true, .And => evB c op es
    | .bool true, .Or => pure (.frz (.bool true))
    | .bool false, .Or => evB c op es
    | _, _ => M.stuck
def evs (c : Cf) : List E → M (List Rv)
  | [] => pure []
  | e :: es => do let r ← ev c e; let rs ← evs c es; pure (r :: rs)
/-- items of a display, with stars -/
def evA (c : Cf) : List E → M (List Rv)
  | [] => pure []
  | .star e :: es => do let r ← ev c e; let u ← opd r; let xs ← M.opt (seq? u); let rs ← evA c es; pure (xs.map .frz ++ rs)
  | e :: es => do let r ← ev c e; let v ← fz r; let rs ← evA c es; pure (.frz v :: rs)
/-- a clause's tests -/
def evT (c : Cf) : List E → M Bool
  | [] => pure true
  | e :: es => do
    let x ← ev c e; let u ← opd x; let b ← M.opt (truth u)
    if b then evT c es else pure false
end

/-! ### statements -/
inductive S where
  | pass | ex (e : E) | asg (t : Tg) (e : E) | par (ts : List Nat) (es : List E) | aug (i : Nat) (op : Operator) (e : E)
  | seti (i : Nat) (k e : E) | mut (m : Mu) (i : Nat) (es : List E)
  | ret (e : E) | retN | ite (t : E) (a b : List S) | loop (tg : Tg) (k : ItK) (its : List E) (body : List S)
  | whl (t : E) (body : List S) | brk | cont | never
inductive Flow where
  | next | brk | cont | ret (r : Rv)
def forLoop (step : PV → M Flow) : List PV → M Flow
  | [] => pure .next
  | x :: xs => do
    let f ← step x
    match f with
    | .next => forLoop step xs
    | .cont => forLoop step xs
    | .brk => pure .next
    | .ret r => pure (.ret r)
def whileLoop (test : M Bool) (body : M Flow) : Nat → M Flow
  | 0 => M.stuck
  | n + 1 => do
    let b ← test
    if b then do
      let f ← body
      match f with
      | .next => whileLoop test body n
      | .cont => whileLoop test body n
      | .brk => pure .next
      | .ret r => pure (.ret r)
    else pure .next
def fuel : Nat := 2 ^ 40
/-- from the right -/
def storeAll : List Nat → List Rv → M Unit
  | [], [] => pure ()
  | i :: is, r :: rs => do storeAll is rs; store i r
  | _, _ => M.stuck
/-- a list of results, each for good or new -/
def evPar (c : Cf) : List E → M (List Rv)
  | [] => pure []
  | e :: es => do
    let r ← ev c e
    match r with
    | .slot _ => M.stuck
    | .frz d => do let rs ← evPar c es; pure (.frz d :: rs)
    | .own d => do let rs ← evPar c es; pure (.own d :: rs)
def setSlot (i : Nat) (v : PV) : M Unit := fun s => match s[i]? with
  | some (.own _) => .ok () (s.set i (.own v))
  | some (.io _) => .ok () (s.set i (.io v))
  | _ => .stuck
def ownVal (i : Nat) : M PV := fun s => match s[i]? with
  | some (.own v) => .ok v s
  | some (.io v) => .ok v s
  | _ => .stuck
mutual
def evS (c : Cf) : S → M Flow
  | .pass => pure .next
  | .ex e => do let _ ← ev c e; pure .next
  | .asg t e => do
    let r ← ev c e
    match t with
    | .name i => do store i r; pure .next
    | .tup ts => do let v ← fz r; bindT (.tup ts) v; pure .next
  | .par ts es => do let rs ← evPar c es; storeAll ts rs; pure .next
  | .aug i op e => do
    let u ← look i
    let r ← ev c e; let v ← opd r
    let z ← M.opt (match u, v with | .int _, .int _ => binOp op u v | _, _ => none)
    store i z; pure .next
  | .seti i k e => do
    let r ← ev c e; let v ← fz r
    let _ ← ownVal i
    let q ← ev c k; let j ← opd q
    let u ← ownVal i
    let w ← M.opt (setOp u j v)
    setSlot i w; pure .next
  | .mut m i es => do
    let u0 ← ownVal i
    if isListV u0 then do
      let rs ← evs c es; let vs ← fzs rs
      let u ← ownVal i
      let w ← M.opt (muOp m u vs)
      setSlot i w; pure .next
    else M.stuck
  | .ret e => do let r ← ev c e; (match r with | .slot _ => M.stuck | r => pure (.ret r))
  | .retN => pure (.ret (.frz .none))
  | .ite t a b => do let x ← ev c t; let u ← opd x; let k ← M.opt (truth u); if k then evSs c a else evSs c b
  | .loop tg k its body => do
    let rs ← evs c its; let vs ← fzs rs; let xs ← M.opt (items k vs)
    forLoop (fun x => do bindT tg x; evSs c body) xs
  | .whl t body => whileLoop (do let x ← ev c t; let u ← opd x; M.opt (truth u)) (evSs c body) fuel
  | .brk => pure .brk
  | .cont => pure .cont
  | .never => M.stuck
def evSs (c : Cf) : List S → M Flow
  | [] => pure .next
  | s :: ss => do
    let f ← evS c s
    match f with
    | .next => evSs c ss
    | .brk => pure .brk
    | .cont => pure .cont
    | .ret r => pure (.ret r)
end

/-! ### programs -/
structure Def where
  nm : Str
  np : Nat
  lent : List Nat
  N : List Str
  body : List S
def Def.start (d : Def) (args : List PV) : Env := (args.zipIdx.map fun p => if d.lent.contains p.2 then Slot.io p.1 else Slot.frz p.1) ++ List.replicate (d.N.length - args.length) Slot.emp
def outs (s : Env) : List Nat → Option (List PV)
  | [] => some []
  | i :: is => match s[i]? with
    | some (.io v) => (outs s is).map (v :: ·)
    | _ => none
def runDef (c : Cf) (d : Def) (args : List PV) : Option (Rv × List PV) :=
  if args.length = d.np ∧ d.np ≤ d.N.length then
    match evSs c d.body (d.start args) with
    | .ok (.ret (.frz v)) s => (outs s d.lent).map fun o => (.frz v, o)
    | .ok (.ret (.own v)) s => (outs s d.lent).map fun o => (.own v, o)
    | .ok .next s => (outs s d.lent).map fun o => (.frz .none, o)
    | _ => none
  else none
structure Prg where
  defs : List Def
  G : List PV
def Prg.lent (p : Prg) (f : Nat) : List Nat := match p.defs[f]? with | some d => d.lent | none => []
def Prg.Φ (p : Prg) : Nat → FEnv
  | 0 => fun _ _ => none
  | n + 1 => fun f args => match p.defs[f]? with
    | some d => runDef ⟨p.Φ n, p.lent, p.G⟩ d args
    | none => none
def Prg.cf (p : Prg) (n : Nat) : Cf := ⟨p.Φ n, p.lent, p.G⟩
theorem Prg.Φ_succ (p : Prg) (n f : Nat) (args : List PV) : p.Φ (n + 1) f args = match p.defs[f]? with | some d => runDef (p.cf n) d args | none => none := rfl
end Ev

/-! Ev2: how the evaluator's data stand in the heap. -/
namespace Ev
open PySem PySem.Spec L2
abbrev Frag := PySem.W.Frag

/-- all of F stands in H -/
def Sub (F H : Hp) : Prop := ∀ a o, F a = some o → H a = some o
theorem Sub.refl (H : Hp) : Sub H H := fun _ _ h => h
theorem Sub.trans {F G H : Hp} (a : Sub F G) (b : Sub G H) : Sub F H := fun c o h => b c o (a c o h)
theorem Sub.upd {H : Hp} {p : Addr} {o : HO} (h : H p = none) : Sub H (upd H p o) := fun b u e => by
  rw [upd_ne (ne_of_none e h)]; exact e
theorem Sub.none {F H : Hp} (s : Sub F H) {p : Addr} (h : H p = none) : F p = none := by
  cases e : F p with
  | none => rfl
  | some o => rw [s p o e] at h; cases h
theorem Rd.sub {F H : Hp} (s : Sub F H) {a : Addr} {u : HO} (h : Rd F a u) : Rd H a u := by
  rcases h with h | ⟨o, h⟩
  · exact .inl (s _ _ h)
  · exact .inr ⟨o, s _ _ h⟩
theorem SqL.sub {K : Frag} {F H : Hp} (s : Sub F H) {a : Addr} {xs : List V} (h : SqL K F a xs) : SqL K H a xs := by
  rcases h with h | h
  · exact .inl (Rd.sub s h)
  · exact .inr h
theorem SqT.sub {K : Frag} {F H : Hp} (s : Sub F H) {a : Addr} {xs : List V} (h : SqT K F a xs) : SqT K H a xs := by
  rcases h with h | h
  · exact .inl (Rd.sub s h)
  · exact .inr h

/-! ### data in the heap -/
mutual
inductive Rp (K : Frag) (H : Hp) : V → PV → Prop
  | non : Rp K H .non .none
  | bl (b : Bool) : Rp K H (.bl b) (.bool b)
  | int (i : Int) : Rp K H (.int i) (.int i)
  | str (x : Str) : Rp K H (.str x) (.str x)
  | lst {a : Addr} {xs : List V} {ds : List PV} : Rd H a (.lst xs) → RpAll K H xs ds → Rp K H (.ref a) (.list ds)
  | tup {a : Addr} {xs : List V} {ds : List PV} : SqT K H a xs → RpAll K H xs ds → Rp K H (.ref a) (.tuple ds)
  | scr {a : Addr} {xs : List V} {ds : List PV} : SqL K H a xs → RpAll K H xs ds → Rp K H (.ref a) (.dict [(.none, .list ds)])
  | dct {a : Addr} {kvs : List (Key × V)} {ds : List (PV × PV)} : H a = some (.dK kvs) → RpKv K H kvs ds → Rp K H (.ref a) (.dict ds)
inductive RpAll (K : Frag) (H : Hp) : List V → List PV → Prop
  | nil : RpAll K H [] []
  | cons {v : V} {vs : List V} {d : PV} {ds : List PV} : Rp K H v d → RpAll K H vs ds → RpAll K H (v :: vs) (d :: ds)
inductive RpKv (K : Frag) (H : Hp) : List (Key × V) → List (PV × PV) → Prop
  | nil : RpKv K H [] []
  | int {k : Int} {v : V} {kvs : List (Key × V)} {d : PV} {ds : List (PV × PV)} : Rp K H v d → RpKv K H kvs ds → RpKv K H ((.inl k, v) :: kvs) ((.int k, d) :: ds)
  | str {k : Str} {v : V} {kvs : List (Key × V)} {d : PV} {ds : List (PV × PV)} : Rp K H v d → RpKv K H kvs ds → RpKv K H ((.inr k, v) :: kvs) ((.str k, d) :: ds)
end
mutual
theorem Rp.sub {K : Frag} {F H : Hp} (s : Sub F H) : ∀ {v : V} {d : PV}, Rp K F v d → Rp K H v d
  | _, _, .non => .non
  | _, _, .bl b => .bl b
  | _, _, .int i => .int i
  | _, _, .str x => .str x
  | _, _, .lst h t => .lst (Rd.sub s h) (RpAll.sub s t)
  | _, _, .scr h t => .scr (SqL.sub s h) (RpAll.sub s t)
  | _, _, .tup h t => .tup (SqT.sub s h) (RpAll.sub s t)
  | _, _, .dct h t => .dct (s _ _ h) (RpKv.sub s t)
theorem RpAll.sub {K : Frag} {F H : Hp} (s : Sub F H) : ∀ {vs : List V} {ds : List PV}, RpAll K F vs ds → RpAll K H vs ds
  | _, _, .nil => .nil
  | _, _, .cons h t => .cons (Rp.sub s h) (RpAll.sub s t)
theorem RpKv.sub {K : Frag} {F H : Hp} (s : Sub F H) : ∀ {vs : List (Key × V)} {ds : List (PV × PV)}, RpKv K F vs ds → RpKv K H vs ds
  | _, _, .nil => .nil
  | _, _, .int h t => .int (Rp.sub s h) (RpKv.sub s t)
  | _, _, .str h t => .str (Rp.sub s h) (RpKv.sub s t)
end
theorem RpAll.length {K : Frag} {H : Hp} : ∀ {vs : List V} {ds : List PV}, RpAll K H vs ds → vs.length = ds.length
  | _, _, .nil => rfl
  | _, _, .cons _ t => by simp [RpAll.length t]
theorem RpAll.get {K : Frag} {H : Hp} : ∀ {vs : List V} {ds : List PV} {i : Nat} {d : PV}, RpAll K H vs ds → ds[i]? = some d → ∃ v, vs[i]? = some v ∧ Rp K H v d
  | _, _, _, _, .nil, e => by simp at e
  | _, _, 0, d, .cons h _, e => by simp at e; subst e; exact ⟨_, rfl, h⟩
  | _, _, i + 1, d, .cons _ t, e => by
    obtain ⟨v, h1, h2⟩ := RpAll.get (i := i) (d := d) t (by simpa using e)
    exact ⟨v, by simpa using h1, h2⟩
theorem RpAll.getV {K : Frag} {H : Hp} : ∀ {vs : List V} {ds : List PV} {i : Nat} {v : V}, RpAll K H vs ds → vs[i]? = some v → ∃ d, ds[i]? = some d ∧ Rp K H v d
  | _, _, _, _, .nil, e => by simp at e
  | _, _, 0, d, .cons h _, e => by simp at e; subst e; exact ⟨_, rfl, h⟩
  | _, _, i + 1, d, .cons _ t, e => by
    obtain ⟨v, h1, h2⟩ := RpAll.getV (i := i) (v := d) t (by simpa using e)
    exact ⟨v, by simpa using h1, h2⟩
theorem RpAll.append {K : Frag} {H : Hp} : ∀ {vs ws : List V} {ds es : List PV}, RpAll K H vs ds → RpAll K H ws es → RpAll K H (vs ++ ws) (ds ++ es)
  | _, _, _, _, .nil, s => s
  | _, _, _, _, .cons r t, s => .cons r (RpAll.append t s)
theorem RpAll.take {K : Frag} {H : Hp} : ∀ {vs : List V} {ds : List PV} (n : Nat), RpAll K H vs ds → RpAll K H (vs.take n) (ds.take n)
  | _, _, 0, _ => .nil
  | _, _, _ + 1, .nil => .nil
  | _, _, n + 1, .cons r t => .cons r (RpAll.take n t)
theorem RpAll.drop {K : Frag} {H : Hp} : ∀ {vs : List V} {ds : List PV} (n : Nat), RpAll K H vs ds → RpAll K H (vs.drop n) (ds.drop n)
  | _, _, 0, r => r
  | _, _, _ + 1, .nil => .nil
  | _, _, n + 1, .cons _ t => RpAll.drop n t
theorem RpAll.set {K : Frag} {H : Hp} {v : V} {d : PV} (r : Rp K H v d) : ∀ {vs : List V} {ds : List PV} (i : Nat), RpAll K H vs ds → RpAll K H (vs.set i v) (ds.set i d)
  | _, _, _, .nil => .nil
  | _, _, 0, .cons _ t => .cons r t
  | _, _, i + 1, .cons q t => .cons q (RpAll.set r i t)
theorem RpAll.rep {K : Frag} {H : Hp} {vs : List V} {ds : List PV} (h : RpAll K H vs ds) : ∀ k : Nat, RpAll K H (List.replicate k vs).flatten (List.replicate k ds).flatten
  | 0 => .nil
  | k + 1 => by
    rw [List.replicate_succ, List.replicate_succ, List.flatten_cons, List.flatten_cons]
    exact h.append (RpAll.rep h k)
theorem RpAll.cons_inv {K : Frag} {H : Hp} {vs : List V} {d : PV} {ds : List PV} (h : RpAll K H vs (d :: ds)) : ∃ v ws, vs = v :: ws ∧ Rp K H v d ∧ RpAll K H ws ds := by
  cases h with
  | cons a b => exact ⟨_, _, rfl, a, b⟩
theorem RpAll.nil_inv {K : Frag} {H : Hp} {vs : List V} (h : RpAll K H vs []) : vs = [] := by
  cases h; rfl
mutual
theorem plain_of_lay : ∀ d : PV, d.canLay0 = true → plain d = true
  | .none, _ => by simp [plain]
  | .bool _, _ => by simp [plain]
  | .int _, _ => by simp [plain]
  | .str _, _ => by simp [plain]
  | .list xs, h => by rw [PyData.canLay0] at h; rw [plain]; exact plains_of_lay xs h
  | .tuple xs, h => by rw [PyData.canLay0] at h; rw [plain]; exact plains_of_lay xs h
  | .dict _, h => by rw [PyData.canLay0] at h; cases h
theorem plains_of_lay : ∀ ds : List PV, PyData.canLayAll0 ds = true → plains ds = true
  | [], _ => by simp [plains]
  | x :: xs, h => by
    rw [PyData.canLayAll0, Bool.and_eq_true] at h
    rw [plains, plain_of_lay x h.1, plains_of_lay xs h.2]; rfl
end
mutual
theorem Rp.dp {K : Frag} {H : Hp} : ∀ {v : V} {d : PV}, Rp K H v d → plain d = true → Dp K H v d
  | _, _, .non, _ => .non
  | _, _, .bl b, _ => .bl b
  | _, _, .int i, _ => .int i
  | _, _, .str x, _ => .str x
  | _, _, .lst h t, p => .lst (.inl h) (RpAll.dp t (by rw [plain] at p; exact p))
  | _, _, .scr _ _, p => by rw [plain] at p; cases p
  | _, _, .tup h t, p => .tup h (RpAll.dp t (by rw [plain] at p; exact p))
  | _, _, .dct _ _, p => by rw [plain] at p; cases p
theorem RpAll.dp {K : Frag} {H : Hp} : ∀ {vs : List V} {ds : List PV}, RpAll K H vs ds → plains ds = true → DpAll K H vs ds
  | _, _, .nil, _ => .nil
  | _, _, .cons h t, p => by
    rw [plains, Bool.and_eq_true] at p
    exact .cons (Rp.dp h p.1) (RpAll.dp t p.2)
end
/-- the thing itself in H, what it holds in F -/
def RpT (K : Frag) (F H : Hp) (v : V) (d : PV) : Prop := match d with
  | .list ds => ∃ a xs, v = .ref a ∧ Rd H a (.lst xs) ∧ RpAll K F xs ds
  | .dict ds => (∃ a kvs, v = .ref a ∧ H a = some (.dK kvs) ∧ RpKv K F kvs ds) ∨ ∃ a xs es, v = .ref a ∧ ds = [(.none, .list es)] ∧ SqL K H a xs ∧ RpAll K F xs es
  | d => Rp K F v d
theorem Rp.top {K : Frag} {F H : Hp} (s : Sub F H) {v : V} {d : PV} (h : Rp K F v d) : RpT K F H v d := by
  cases h with
  | lst h t => exact ⟨_, _, rfl, Rd.sub s h, t⟩
  | scr h t => exact .inr ⟨_, _, _, rfl, rfl, SqL.sub s h, t⟩
  | dct h t => exact .inl ⟨_, _, rfl, s _ _ h, t⟩
  | non => exact .non
  | bl b => exact .bl b
  | int i => exact .int i
  | str x => exact .str x
  | tup h t => exact .tup h t
theorem RpT.rp {K : Frag} {F H : Hp} (s : Sub F H) {v : V} {d : PV} (h : RpT K F H v d) : Rp K H v d := by
  cases d with
  | list ds => obtain ⟨a, xs, rfl, h1, h2⟩ := h; exact .lst h1 (RpAll.sub s h2)
  | dict ds =>
    rcases h with ⟨a, xs, rfl, h1, h2⟩ | ⟨a, xs, es, rfl, rfl, h1, h2⟩
    · exact .dct h1 (RpKv.sub s h2)
    · exact .scr h1 (RpAll.sub s h2)
  | none => exact Rp.sub s h
  | bool b => exact Rp.sub s h
  | int b => exact Rp.sub s h
  | str b => exact Rp.sub s h
  | tuple b => exact Rp.sub s h
/-- a list or dict that stands at a in H, its items in F -/
def OwnR (K : Frag) (F H : Hp) (a : Addr) (d : PV) : Prop := match d with
  | .list ds => ∃ xs, H a = some (.lst xs) ∧ RpAll K F xs ds
  | .dict ds => ∃ kvs, H a = some (.dK kvs) ∧ RpKv K F kvs ds
  | _ => False
theorem OwnR.top {K : Frag} {F H : Hp} {a : Addr} {d : PV} (h : OwnR K F H a d) : RpT K F H (.ref a) d := by
  cases d with
  | list ds => obtain ⟨xs, h1, h2⟩ := h; exact ⟨a, xs, rfl, .inl h1, h2⟩
  | dict ds => obtain ⟨xs, h1, h2⟩ := h; exact .inl ⟨a, xs, rfl, h1, h2⟩
  | none => exact h.elim
  | bool b => exact h.elim
  | int b => exact h.elim
  | str b => exact h.elim
  | tuple b => exact h.elim
theorem OwnR.there {K : Frag} {F H : Hp} {a : Addr} {d : PV} (h : OwnR K F H a d) : ∃ o, H a = some o := by
  cases d with
  | list ds => obtain ⟨xs, h1, h2⟩ := h; exact ⟨_, h1⟩
  | dict ds => obtain ⟨xs, h1, h2⟩ := h; exact ⟨_, h1⟩
  | none => exact h.elim
  | bool b => exact h.elim
  | int b => exact h.elim
  | str b => exact h.elim
  | tuple b => exact h.elim
theorem OwnR.stay {K : Frag} {F H F' H' : Hp} {a : Addr} {d : PV} (h : OwnR K F H a d) (s : Sub F F') (e : ∀ o, H a = some o → H' a = some o) : OwnR K F' H' a d := by
  cases d with
  | list ds => obtain ⟨xs, h1, h2⟩ := h; exact ⟨xs, e _ h1, RpAll.sub s h2⟩
  | dict ds => obtain ⟨xs, h1, h2⟩ := h; exact ⟨xs, e _ h1, RpKv.sub s h2⟩
  | none => exact h.elim
  | bool b => exact h.elim
  | int b => exact h.elim
  | str b => exact h.elim
  | tuple b => exact h.elim
/-- it is frozen as it stands -/
theorem OwnR.freeze {K : Frag} {F H : Hp} {a : Addr} {d : PV} (h : OwnR K F H a d) (s : Sub F H) (n : F a = none) : ∃ o, H a = some o ∧ Rp K (upd F a o) (.ref a) d := by
  have s1 : ∀ o, Sub F (upd F a o) := fun o => Sub.upd n
  cases d with
  | list ds => obtain ⟨xs, h1, h2⟩ := h; exact ⟨_, h1, .lst (.inl upd_same) (RpAll.sub (s1 _) h2)⟩
  | dict ds => obtain ⟨xs, h1, h2⟩ := h; exact ⟨_, h1, .dct upd_same (RpKv.sub (s1 _) h2)⟩
  | none => exact h.elim
  | bool b => exact h.elim
  | int b => exact h.elim
  | str b => exact h.elim
  | tuple b => exact h.elim

/-! ### the names -/
/-- where a body began: the heap, what was frozen, the lent places and where their things stand, the new things at hand -/
structure Bs where
  H0 : Hp
  F0 : Hp
  I : List (Nat × Addr)
  T : List (Addr × PV)
def SlotR (K : Frag) (B : Bs) (F H : Hp) (σ : L2.St) (i : Nat) : Slot → Prop
  | .emp => True
  | .frz d => ∃ v, σ[i]? = some (some v) ∧ Rp K F v d
  | .own d => ∃ a, σ[i]? = some (some (.ref a)) ∧ F a = none ∧ B.H0 a = none ∧ OwnR K F H a d
  | .io d => ∃ a, σ[i]? = some (some (.ref a)) ∧ (i, a) ∈ B.I ∧ F a = none ∧ OwnR K F H a d
def isOwn : Slot → Bool
  | .own _ => true | .io _ => true | _ => false
structure EnvR (K : Frag) (B : Bs) (F H : Hp) (σ : L2.St) (s : Env) : Prop where
  fh : Sub F H
  len : s.length = σ.length
  slot : ∀ (i : Nat) (x : Slot), s[i]? = some x → SlotR K B F H σ i x
  apart : ∀ (i j : Nat) (x y : Slot) (a : Addr), s[i]? = some x → s[j]? = some y → isOwn x = true → isOwn y = true → σ[i]? = some (some (.ref a)) → σ[j]? = some (some (.ref a)) → i = j
  tmp : ∀ p ∈ B.T, F p.1 = none ∧ B.H0 p.1 = none ∧ OwnR K F H p.1 p.2
  tmpA : ∀ p ∈ B.T, ∀ (i : Nat) (x : Slot), s[i]? = some x → isOwn x = true → σ[i]? ≠ some (some (.ref p.1))
  tmpN : (B.T.map (·.1)).Nodup
  lent : ∀ p ∈ B.I, ∃ d, s[p.1]? = some (.io d) ∧ σ[p.1]? = some (some (.ref p.2))
  keep : ∀ a o, B.H0 a = some o → (∀ p ∈ B.I, p.2 ≠ a) → H a = some o
  fnew : ∀ a o, F a = some o → B.F0 a = some o ∨ B.H0 a = none
  fold : Sub B.F0 F
section
variable {K : Frag} {B : Bs} {F H F' H' : Hp} {σ : L2.St} {s : Env}
theorem EnvR.lentAt (e : EnvR K B F H σ s) {p : Nat × Addr} (hp : p ∈ B.I) : ∃ o, H p.2 = some o := by
  obtain ⟨d, h1, h2⟩ := e.lent p hp
  obtain ⟨a, h3, _, _, h4⟩ := e.slot _ _ h1
  rw [h2] at h3; cases h3
  exact h4.there
/-- what is free now was free at the start -/
theorem EnvR.free0 (e : EnvR K B F H σ s) {a : Addr} (h : H a = none) : B.H0 a = none := by
  cases q : B.H0 a with
  | none => rfl
  | some o =>
    rcases Classical.em (∃ p ∈ B.I, p.2 = a) with ⟨p, hp, hn⟩ | hp
    · obtain ⟨o', h'⟩ := e.lentAt hp
      rw [hn, h] at h'; cases h'
    · rw [e.keep a o q fun p h1 h2 => hp ⟨p, h1, h2⟩] at h; cases h
/-- the heap has grown: all that stood stands, what is newly frozen is new -/
structure Grow (F H F' H' : Hp) : Prop where
  ff : Sub F F'
  fh : Sub F' H'
  hh : Sub H H'
  new : ∀ a o, F' a = some o → F a = some o ∨ H a = none
theorem Grow.refl (s : Sub F H) : Grow F H F H := ⟨Sub.refl F, s, Sub.refl H, fun _ _ h => .inl h⟩
theorem Grow.trans {F2 H2 : Hp} (a : Grow F H F' H') (b : Grow F' H' F2 H2) : Grow F H F2 H2 :=
  ⟨a.ff.trans b.ff, b.fh, a.hh.trans b.hh, fun x o h => by
    rcases b.new x o h with h | h
    · exact a.new x o h
    · exact .inr (a.hh.none h)⟩
/-- a new object, of the one or of the other kind -/
theorem Grow.own (s : Sub F H) {p : Addr} {o : HO} (h : H p = none) : Grow F H F (L2.upd H p o) := ⟨Sub.refl F, s.trans (Sub.upd h), Sub.upd h, fun _ _ q => .inl q⟩
theorem Grow.frz (s : Sub F H) {p : Addr} {o : HO} (h : H p = none) : Grow F H (L2.upd F p o) (L2.upd H p o) := by
  refine ⟨Sub.upd (s.none h), fun a u e => ?_, Sub.upd h, fun a u e => ?_⟩
  · by_cases hp : a = p
    · subst hp; rw [upd_same] at e ⊢; exact e
    · rw [upd_ne hp] at e ⊢; exact s _ _ e
  · by_cases hp : a = p
    · subst hp; exact .inr h
    · rw [upd_ne hp] at e; exact .inl e
theorem Grow.fnone (g : Grow F H F' H') {a : Addr} {o : HO} (h : F a = none) (hh : H a = some o) : F' a = none := by
  cases e : F' a with
  | none => rfl
  | some u =>
    rcases g.new a u e with h1 | h1
    · rw [h] at h1; cases h1
    · rw [hh] at h1; cases h1
theorem SlotR.grow (g : Grow F H F' H') {i : Nat} {x : Slot} (h : SlotR K B F H σ i x) : SlotR K B F' H' σ i x := by
  cases x with
  | emp => trivial
  | frz d => obtain ⟨v, h1, h2⟩ := h; exact ⟨v, h1, Rp.sub g.ff h2⟩
  | own d =>
    obtain ⟨a, h1, h2, h3, h4⟩ := h
    obtain ⟨o, ho⟩ := h4.there
    exact ⟨a, h1, g.fnone h2 ho, h3, h4.stay g.ff fun u => g.hh a u⟩
  | io d =>
    obtain ⟨a, h1, h2, h3, h4⟩ := h
    obtain ⟨o, ho⟩ := h4.there
    exact ⟨a, h1, h2, g.fnone h3 ho, h4.stay g.ff fun u => g.hh a u⟩
theorem EnvR.grow (e : EnvR K B F H σ s) (g : Grow F H F' H') : EnvR K B F' H' σ s := by
  refine ⟨g.fh, e.len, fun i x h => (e.slot i x h).grow g, e.apart, fun p hp => ?_, e.tmpA, e.tmpN, e.lent, fun a o h n => g.hh _ _ (e.keep a o h n), fun a o h => ?_, e.fold.trans g.ff⟩
  · obtain ⟨h1, h2, h3⟩ := e.tmp p hp
    obtain ⟨o, ho⟩ := h3.there
    exact ⟨g.fnone h1 ho, h2, h3.stay g.ff fun u => g.hh _ u⟩
  · rcases g.new a o h with h | h
    · exact e.fnew a o h
    · exact .inr (e.free0 h)

/-- a result -/
def RvR (K : Frag) (B : Bs) (F H : Hp) (σ : L2.St) (s : Env) (v : V) : Rv → Prop
  | .frz d => Rp K F v d
  | .own d => ∃ a, v = .ref a ∧ F a = none ∧ B.H0 a = none ∧ OwnR K F H a d ∧ (∀ (i : Nat) (x : Slot), s[i]? = some x → isOwn x = true → σ[i]? ≠ some (some (.ref a))) ∧ ∀ p ∈ B.T, p.1 ≠ a
  | .slot i => σ[i]? = some (some v)
/-- a result for good -/
def RvF (K : Frag) (F : Hp) (σ : L2.St) (v : V) : Rv → Prop
  | .frz d => Rp K F v d
  | .own d => Rp K F v d
  | .slot i => σ[i]? = some (some v)
theorem RvF.sub {v : V} {r : Rv} (h : RvF K F σ v r) (s : Sub F F') : RvF K F' σ v r := by
  cases r with
  | frz d => exact Rp.sub s h
  | own d => exact Rp.sub s h
  | slot i => exact h
/-- a thing of our own is frozen -/
theorem EnvR.freeze (e : EnvR K B F H σ s) {a : Addr} {o : HO} (h : H a = some o) (h0 : B.H0 a = none) (ns : ∀ (i : Nat) (x : Slot), s[i]? = some x → isOwn x = true → σ[i]? ≠ some (some (.ref a))) (nt : ∀ p ∈ B.T, p.1 ≠ a) (hn : F a = none) :
    EnvR K B (L2.upd F a o) H σ s := by
  have s1 : Sub F (L2.upd F a o) := Sub.upd hn
  have none' : ∀ b, F b = none → b ≠ a → L2.upd F a o b = none := fun b q n => by rw [upd_ne n]; exact q
  refine ⟨fun b u q => ?_, e.len, fun i x q => ?_, e.apart, fun p hp => ?_, e.tmpA, e.tmpN, e.lent, e.keep, fun b u q => ?_, e.fold.trans s1⟩
  · by_cases hb : b = a
    · subst hb; rw [upd_same] at q; cases q; exact h
    · rw [upd_ne hb] at q; exact e.fh _ _ q
  · have := e.slot i x q
    cases x with
    | emp => trivial
    | frz d => obtain ⟨v, h1, h2⟩ := this; exact ⟨v, h1, Rp.sub s1 h2⟩
    | own d =>
      obtain ⟨b, h1, h2, h3, h4⟩ := this
      have hb : b ≠ a := fun z => ns i _ q rfl (by rw [h1, z])
      exact ⟨b, h1, none' b h2 hb, h3, h4.stay s1 fun u hu => hu⟩
    | io d =>
      obtain ⟨b, h1, h2, h3, h4⟩ := this
      have hb : b ≠ a := fun z => ns i _ q rfl (by rw [h1, z])
      exact ⟨b, h1, h2, none' b h3 hb, h4.stay s1 fun u hu => hu⟩
  · obtain ⟨h1, h2, h3⟩ := e.tmp p hp
    exact ⟨none' _ h1 (nt p hp), h2, h3.stay s1 fun u hu => hu⟩
  · by_cases hb : b = a
    · subst hb; exact .inr h0
    · rw [upd_ne hb] at q; exact e.fnew b u q
theorem RvR.good (e : EnvR K B F H σ s) {v : V} {r : Rv} (h : RvR K B F H σ s v r) : ∃ F', Sub F F' ∧ EnvR K B F' H σ s ∧ RvF K F' σ v r := by
  cases r with
  | frz d => exact ⟨F, Sub.refl F, e, h⟩
  | slot i => exact ⟨F, Sub.refl F, e, h⟩
  | own d =>
    obtain ⟨a, rfl, h1, h2, h3, h4, h5⟩ := h
    obtain ⟨o, ho, hr⟩ := h3.freeze e.fh h1
    exact ⟨L2.upd F a o, Sub.upd h1, e.freeze ho h2 h4 h5 h1, hr⟩
/-- an operand -/
theorem opd_ok (e : EnvR K B F H σ s) {v : V} {r : Rv} {d : PV} {s' : Env} (h : RvF K F σ v r) (ho : opd r s = .ok d s') : s' = s ∧ RpT K F H v d := by
  cases r with
  | frz x => injection ho with h1 h2; subst h1 h2; exact ⟨rfl, Rp.top e.fh h⟩
  | own x => injection ho with h1 h2; subst h1 h2; exact ⟨rfl, Rp.top e.fh h⟩
  | slot i =>
    obtain ⟨h1, h2⟩ := opt_inv ho
    refine ⟨h2, ?_⟩
    cases q : s[i]? with
    | none => rw [q] at h1; cases h1
    | some x =>
      rw [q] at h1
      have w := e.slot i x q
      have hv : σ[i]? = some (some v) := h
      cases x with
      | emp => cases h1
      | frz y => cases h1; obtain ⟨u, a, b⟩ := w; rw [hv] at a; cases a; exact Rp.top e.fh b
      | own y => cases h1; obtain ⟨u, a, _, _, b⟩ := w; rw [hv] at a; cases a; exact b.top
      | io y => cases h1; obtain ⟨u, a, _, _, b⟩ := w; rw [hv] at a; cases a; exact b.top
theorem fz_ok {v : V} {r : Rv} {d : PV} {s' : Env} (h : RvF K F σ v r) (ho : fz r s = .ok d s') : s' = s ∧ Rp K F v d := by
  cases r with
  | frz x => injection ho with h1 h2; subst h1 h2; exact ⟨rfl, h⟩
  | own x => injection ho with h1 h2; subst h1 h2; exact ⟨rfl, h⟩
  | slot i => cases ho
end
end Ev

/-! Ev3: the operators. -/
namespace Ev
open PySem PySem.Spec L2
section
variable {K : Frag} {F H F' H' : Hp}
/-- a result that stands behind an operation -/
def ResR (K : Frag) (H F' H' : Hp) (z : V) : Rv → Prop
  | .frz d => Rp K F' z d
  | .own d => ∃ a, z = .ref a ∧ H a = none ∧ F' a = none ∧ OwnR K F' H' a d
  | .slot _ => False
theorem ResR.rv {B : Bs} {σ : L2.St} {s : Env} {z : V} {r : Rv} (e : EnvR K B F H σ s) (g : Grow F H F' H') (h : ResR K H F' H' z r) : RvR K B F' H' σ s z r := by
  cases r with
  | frz d => exact h
  | slot i => exact h.elim
  | own d =>
    obtain ⟨a, rfl, h1, h2, h3⟩ := h
    refine ⟨a, rfl, h2, e.free0 h1, h3, fun i x q ow z => ?_, fun p hp z => ?_⟩
    · have w := e.slot i x q
      cases x with
      | emp => cases ow
      | frz d => cases ow
      | own d => obtain ⟨b, w1, _, _, w4⟩ := w; rw [z] at w1; cases w1; obtain ⟨o, ho⟩ := w4.there; rw [h1] at ho; cases ho
      | io d => obtain ⟨b, w1, _, _, w4⟩ := w; rw [z] at w1; cases w1; obtain ⟨o, ho⟩ := w4.there; rw [h1] at ho; cases ho
    · obtain ⟨_, _, w⟩ := e.tmp p hp
      obtain ⟨o, ho⟩ := w.there
      rw [z, h1] at ho; cases ho
/-- what is wanted behind an operation that gives r -/
def Want (K : Frag) (F H : Hp) (r : Rv) (Q : VK) : Prop := ∀ z H' F', Grow F H F' H' → ResR K H F' H' z r → Q z H'
theorem Want.frz {d : PV} {Q : VK} (w : Want K F H (.frz d) Q) (s : Sub F H) {z : V} (h : Rp K F z d) : Q z H := w z H F (Grow.refl s) h
/-- a new frozen tuple -/
theorem Want.tup {ds : List PV} {xs : List V} {Q : VK} (w : Want K F H (.frz (.tuple ds)) Q) (s : Sub F H) (h : RpAll K F xs ds) : ∀ p, H p = none → Q (.ref p) (upd H p (.tup xs)) := fun p hp =>
  w _ _ _ (Grow.frz s hp) (.tup (.of upd_same) (RpAll.sub (Sub.upd (s.none hp)) h))
theorem Want.lst {ds : List PV} {xs : List V} {Q : VK} (w : Want K F H (.own (.list ds)) Q) (s : Sub F H) (h : RpAll K F xs ds) : ∀ p, H p = none → Q (.ref p) (upd H p (.lst xs)) := fun p hp =>
  w _ _ _ (Grow.own s hp) ⟨p, rfl, hp, s.none hp, xs, upd_same, h⟩

/-! inversions -/
theorem RpT.int {v : V} {i : Int} (h : RpT K F H v (.int i)) : v = .int i := by
  have h : Rp K F v (.int i) := h
  cases h; rfl
theorem RpT.bl {v : V} {i : Bool} (h : RpT K F H v (.bool i)) : v = .bl i := by
  have h : Rp K F v (.bool i) := h
  cases h; rfl
theorem RpT.str {v : V} {i : Str} (h : RpT K F H v (.str i)) : v = .str i := by
  have h : Rp K F v (.str i) := h
  cases h; rfl
theorem RpT.non {v : V} (h : RpT K F H v .none) : v = .non := by
  have h : Rp K F v .none := h
  cases h; rfl
theorem RpT.tup {v : V} {ds : List PV} (h : RpT K F H v (.tuple ds)) : ∃ a xs, v = .ref a ∧ SqT K F a xs ∧ RpAll K F xs ds := by
  have h : Rp K F v (.tuple ds) := h
  cases h with
  | tup a b => exact ⟨_, _, rfl, a, b⟩
theorem RpT.lst {v : V} {ds : List PV} (h : RpT K F H v (.list ds)) : ∃ a xs, v = .ref a ∧ Rd H a (.lst xs) ∧ RpAll K F xs ds := h
theorem Rp.non_iff {v : V} {d : PV} (h : Rp K H v d) : decide (v = .non) = isNone d := by
  cases h <;> rfl
end

section
variable {X : Cx}
theorem OpR.imp {f : Value → Value → Sem Value} {r r' : R2} (h : OpR X f r) (i : ∀ x y H Q, r' x y H Q → r x y H Q) : OpR X f r' := fun pins s σ H x y v u Q I a b q => h pins s σ H x y v u Q I a b (i _ _ _ _ q)
theorem UnR.imp {f : Value → Sem Value} {r r' : V → Hp → VK → Prop} (h : UnR X f r) (i : ∀ x H Q, r' x H Q → r x H Q) : UnR X f r' := fun pins s σ H x v Q I a q => h pins s σ H x v Q I a (i _ _ _ q)
theorem CallR.imp {f : Value} {r r' : List V → Hp → VK → Prop} (h : CallR X f r) (i : ∀ x H Q, r' x H Q → r x H Q) : CallR X f r' := fun pins s σ H x v Q I a q => h pins s σ H x v Q I a (i _ _ _ q)
theorem IxR.imp {r r' : R2} (h : IxR X r) (i : ∀ x y H Q, r' x y H Q → r x y H Q) : IxR X r' := fun a b pins s σ H x y v u Q I c d q => h a b pins s σ H x y v u Q I c d (i _ _ _ _ q)
theorem MtR.imp {id : String} {r r' : V → List V → Hp → VK → Prop} (h : MtR X id r) (i : ∀ x xs H Q, r' x xs H Q → r x xs H Q) : MtR X id r' := fun pins s σ H x xs v u Q I c d q => h pins s σ H x xs v u Q I c d (i _ _ _ _ q)

theorem pow_ok (i j : Int) (h : powOk i j = true) : 0 ≤ j ∧ (Builtin.Int.intBits i : Int) * j ≤ 2 ^ 27 := by
  unfold powOk at h
  simp only [Bool.and_eq_true, decide_eq_true_eq] at h
  obtain ⟨⟨h1, h2⟩, h3⟩ := h
  have h4 : Builtin.Int.intBits i ≤ 1000 := intBits_le_iff.mpr h3
  refine ⟨h1, ?_⟩
  have h5 : (Builtin.Int.intBits i : Int) * j ≤ 1000 * 1000 := Int.mul_le_mul (by omega) h2 h1 (by decide)
  exact Int.le_trans h5 (by decide)
theorem op_powW : OpR X (binaryOp .Pow) (rI (fun i j => powOk i j = true) fun i j => .int (i ^ j.toNat)) := opI fun i j t u s Q E hc q => PyProof.Rows.pow_int (pow_ok i j hc).1 (pow_ok i j hc).2 q
theorem mul_ok {i j : Int} (h : mulOk i j = true) : IntMulOk i j := by
  unfold mulOk at h
  simp only [Bool.or_eq_true, Bool.and_eq_true, decide_eq_true_eq] at h
  rcases h with (h | h) | ⟨h1, h2⟩
  · exact CMul.ok (.inl (by omega))
  · exact CMul.ok (.inr (by omega))
  · exact CMulW.ok (wide_mul h1 h2 (by decide) (by decide) (by decide))
theorem op_mulM : OpR X (binaryOp .Mult) (rI (fun i j => mulOk i j = true) fun i j => .int (i * j)) := opI fun _ _ _ _ _ _ _ hc q => PyProof.Rows.mul_int q (mul_ok hc)

theorem lstR {pins : List (Addr × Obj)} {σ : L2.St} {H : Hp} {s : Shared} {l : Addr} {xs : List V} (I : Inv X pins σ H s) (h : Rd H l (.lst xs)) : xs.length ≤ sizeLine ∧ ∃ (its : List Value) (n : Nat), Vals xs its ∧ xs.length = its.length ∧ s.heap.get? l = some { cls := .type "list", data := .seq its.toArray n } := by
  obtain ⟨h1, its, n, r, e⟩ := h.ok I.hok
  exact ⟨h1, its, n, r, r.length, e⟩
/-- xs + ys, the lists of any kind -/
def rCatL : R2 := fun x y H Q => ∃ l b xs zs, x = .ref l ∧ y = .ref b ∧ Rd H l (.lst xs) ∧ Rd H b (.lst zs) ∧ xs.length + zs.length ≤ sizeLine ∧ ∀ p, H p = none → Q (.ref p) (upd H p (.lst (xs ++ zs)))
theorem op_catL : OpR X (binaryOp .Add) rCatL := by
  intro pins s σ H x y v u Q I rx ry h
  obtain ⟨l, b, xs, zs, rfl, rfl, hH, hB, hz, q⟩ := h
  cases rx
  cases ry
  obtain ⟨z, its, n, r, hl, e⟩ := lstR I hH
  obtain ⟨z2, its2, n2, r2, hl2, e2⟩ := lstR I hB
  refine PySem.P.add_list e e2 ?_ (by rw [List.size_toArray, List.size_toArray]; omega)
  have ea : its.toArray ++ its2.toArray = (its ++ its2).toArray := by simp
  rw [ea]
  exact ⟨.ref _, _, I.lnew (t' := s.toks) (r.append r2) (by rw [List.length_append]; omega), rfl, q _ I.fresh⟩
def rExtL : V → List V → Hp → VK → Prop := fun x vs H Q => ∃ l b xs zs, x = .ref l ∧ vs = [.ref b] ∧ H l = some (.lst xs) ∧ Rd H b (.lst zs) ∧ xs.length + zs.length ≤ sizeLine ∧ Q .non (upd H l (.lst (xs ++ zs)))
theorem mt_extL : MtM X "list.extend" rExtL := by
  intro pins s σ H x vs v us Q I rx rv h
  obtain ⟨l, b, xs, zs, rfl, rfl, hH, hB, hz, q⟩ := h
  cases rx
  obtain ⟨u, rfl, ru⟩ := rv.one
  cases ru
  obtain ⟨z, its, n, r, hl, e⟩ := I.lstM hH
  obtain ⟨z2, its2, n2, r2, hl2, e2⟩ := lstR I hB
  have hsz : its.toArray.size + its2.toArray.size ≤ sizeLine := by rw [List.size_toArray, List.size_toArray]; omega
  have hlong : ¬ (!its.toArray.isEmpty && Builtin.List.listTooLong (its.toArray.size + its2.toArray.size)) = true := by
    rw [notLongL hsz, Bool.and_false]
    exact Bool.false_ne_true
  refine call_meets F.slot_list_extend ⟨_, e, rfl⟩ F.entry_list_extend (F.args_list_extend_2 _ _)
    (AutoSeq1.list_extend_list_list_0 l its.toArray n b its2.toArray n2 hlong (by rw [List.size_toArray]; omega) (by omega)) ⟨e, e2, ?_⟩
  refine ⟨.non, _, I.lset (its' := its ++ its2) hH e (by simp) (r.append r2) ?_, rfl, q⟩
  rw [List.length_append]
  omega

/-- an operation by the evaluator's data -/
def OpS (X : Cx) (f : Value → Value → Sem Value) (u v : PV) (r : Rv) : Prop :=
  OpR X f fun x y H Q => ∃ F, Sub F H ∧ RpT X.K F H x u ∧ RpT X.K F H y v ∧ Want X.K F H r Q
theorem ops_int {f : Value → Value → Sem Value} {C : Int → Int → Prop} {g : Int → Int → Int} {i j : Int} (h : OpR X f (rI C fun i j => .int (g i j))) (c : C i j) : OpS X f (.int i) (.int j) (.frz (.int (g i j))) :=
  OpR.imp h fun x y H Q ⟨F, s, hx, hy, w⟩ => ⟨i, j, hx.int, hy.int, c, w.frz s (.int _)⟩
theorem ops_int0 {f : Value → Value → Sem Value} {g : Int → Int → Int} {i j : Int} (h : OpR X f (rI0 fun i j => .int (g i j))) : OpS X f (.int i) (.int j) (.frz (.int (g i j))) :=
  OpR.imp h fun x y H Q ⟨F, s, hx, hy, w⟩ => ⟨i, j, hx.int, hy.int, w.frz s (.int _)⟩
theorem ops_intB {f : Value → Value → Sem Value} {g : Int → Int → Bool} {i j : Int} (h : OpR X f (rI0 fun i j => .bl (g i j))) : OpS X f (.int i) (.int j) (.frz (.bool (g i j))) :=
  OpR.imp h fun x y H Q ⟨F, s, hx, hy, w⟩ => ⟨i, j, hx.int, hy.int, w.frz s (.bl _)⟩
theorem lim_eq : lim = sizeLine := by rw [sizeLine_eq]; rfl
end
end Ev

/-! Ev4: the operators' rules by the evaluator's data. -/
namespace Ev
open PySem PySem.Spec L2
section
variable {X : Cx}
theorem bin_ok {op : Operator} {u v : PV} {r : Rv} (h : binOp op u v = some r) : OpS X (binaryOp op) u v r := by
  unfold binOp at h
  split at h
  · cases h; exact ops_int0 op_add
  · -- tuples
    split at h
    · rename_i xs ys hz
      cases h
      refine OpR.imp op_catA fun x y H Q ⟨F, s, hx, hy, w⟩ => ?_
      obtain ⟨a, vs, rfl, ha, ra⟩ := hx.tup
      obtain ⟨b, ws, rfl, hb, rb⟩ := hy.tup
      refine ⟨a, b, vs, ws, rfl, rfl, SqT.sub s ha, SqT.sub s hb, by rw [ra.length, rb.length, ← lim_eq]; exact hz, fun e => ?_, fun e1 e2 => ?_, fun _ _ => ?_⟩
      · subst e
        cases ra
        exact w.frz s (.tup hb rb)
      · subst e2
        cases rb
        rw [List.append_nil] at w
        exact w.frz s (.tup ha ra)
      · exact w.tup s (ra.append rb)
    · cases h
  · split at h
    · rename_i xs ys hz
      cases h
      refine OpR.imp op_catL fun x y H Q ⟨F, s, hx, hy, w⟩ => ?_
      obtain ⟨a, vs, rfl, ha, ra⟩ := hx.lst
      obtain ⟨b, ws, rfl, hb, rb⟩ := hy.lst
      exact ⟨a, b, vs, ws, rfl, rfl, ha, hb, by rw [ra.length, rb.length, ← lim_eq]; exact hz, w.lst s (ra.append rb)⟩
    · cases h
  · cases h; exact ops_int0 op_sub
  · split at h
    · rename_i hc
      cases h; exact ops_int op_mulM hc
    · cases h
  · split at h
    · rename_i xs k hc
      cases h
      obtain ⟨h1, h2, h3, h4⟩ := hc
      refine OpR.imp op_repT fun x y H Q ⟨F, s, hx, hy, w⟩ => ?_
      obtain ⟨a, vs, rfl, ha, ra⟩ := hx.tup
      refine ⟨a, k, vs, rfl, hy.int, SqT.sub s ha, fun e => ?_, h2, h3, by rw [ra.length]; exact h4, w.tup s (ra.rep _)⟩
      subst e
      cases ra
      exact h1 rfl
    · cases h
  · split at h
    · rename_i i j hc
      cases h
      exact ops_int (C := CDivW) op_fdivW (wide_div (b := 4000) hc.1 (by have := hc.1; have := hc.2; omega) (by decide) (by decide))
    · cases h
  · split at h
    · rename_i hc
      cases h
      exact ops_int op_mod hc
    · cases h
  · split at h
    · rename_i hc
      cases h; exact ops_int op_powW hc
    · cases h
  · cases h
theorem eq_ok {u v : PV} {b : Bool} (hu : X.A.units + 65 < cLine) (h : eqOp u v = some b) : OpS X (compareOp .Eq) u v (.frz (.bool b)) := by
  unfold eqOp at h
  split at h
  · rename_i hs
    cases h
    rw [Bool.and_eq_true] at hs
    refine OpR.imp (op_eqD (by omega)) fun x y H Q ⟨F, s, hx, hy, w⟩ => ?_
    exact ⟨u, v, (hx.rp s).dp (plain_of_lay _ (SeqAt.canLay_of_shaped hs.1)), (hy.rp s).dp (plain_of_lay _ (SeqAt.canLay_of_shaped hs.2)), hs.1, hs.2, w.frz s (.bl _)⟩
  · cases h
theorem ne_ok {u v : PV} {b : Bool} (hu : X.A.units + 65 < cLine) (h : eqOp u v = some b) : OpS X (compareOp .NotEq) u v (.frz (.bool (!b))) := by
  unfold eqOp at h
  split at h
  · rename_i hs
    cases h
    rw [Bool.and_eq_true] at hs
    refine OpR.imp (op_neD (by omega)) fun x y H Q ⟨F, s, hx, hy, w⟩ => ?_
    exact ⟨u, v, (hx.rp s).dp (plain_of_lay _ (SeqAt.canLay_of_shaped hs.1)), (hy.rp s).dp (plain_of_lay _ (SeqAt.canLay_of_shaped hs.2)), hs.1, hs.2, w.frz s (.bl _)⟩
  · cases h
theorem Rp.flat {K : Frag} {H : Hp} {v : V} {d : PV} (h : Rp K H v d) (f : flat d = true) : flatV v = true := by
  cases h <;> first | rfl | cases f
theorem RpAll.flat {K : Frag} {H : Hp} : ∀ {vs : List V} {ds : List PV}, RpAll K H vs ds → ds.all Ev.flat = true → vs.all flatV = true
  | _, _, .nil, _ => rfl
  | _, _, .cons h t, f => by
    rw [List.all_cons, Bool.and_eq_true] at f ⊢
    exact ⟨Rp.flat h f.1, RpAll.flat t f.2⟩
theorem Rp.eqV {K : Frag} {H : Hp} {v w : V} {d e : PV} (h : Rp K H v d) (f : Ev.flat d = true) (h' : Rp K H w e) (f' : Ev.flat e = true) : L2.eqV v w = PyData.eqv d e := by
  cases h <;> cases h' <;> first | rfl | (cases f; done) | (cases f'; done) | (simp [L2.eqV, PyData.eqv])
theorem RpAll.inV {K : Frag} {H : Hp} {w : V} {e : PV} (h' : Rp K H w e) (f' : Ev.flat e = true) : ∀ {vs : List V} {ds : List PV}, RpAll K H vs ds → ds.all Ev.flat = true → L2.inV w vs = ds.any fun y => PyData.eqv y e
  | _, _, .nil, _ => rfl
  | _, _, .cons h t, f => by
    rw [List.all_cons, Bool.and_eq_true] at f
    unfold L2.inV
    rw [List.any_cons, List.any_cons, Rp.eqV h f.1 h' f']
    have := RpAll.inV h' f' t f.2
    unfold L2.inV at this
    rw [this]
theorem in_ok {neg : Bool} {u v : PV} {b : Bool} (hu : X.A.units + 65 < cLine) (h : inOp u v = some b) : OpS X (compareOp (if neg then .NotIn else .In)) u v (.frz (.bool (if neg then !b else b))) := by
  unfold inOp at h
  split at h
  · rename_i ys
    split at h
    · rename_i hs
      cases h
      rw [Bool.and_eq_true] at hs
      cases neg
      · refine OpR.imp (op_inD hu) fun x y H Q ⟨F, s, hx, hy, w⟩ => ?_
        exact ⟨u, ys, (hx.rp s).dp (plain_of_lay _ (SeqAt.canLay_of_shaped hs.1)), (hy.rp s).dp (plain_of_lay _ (SeqAt.canLay_of_shaped hs.2)), hs.1, hs.2, w.frz s (.bl _)⟩
      · refine OpR.imp (op_notInD hu) fun x y H Q ⟨F, s, hx, hy, w⟩ => ?_
        exact ⟨u, ys, (hx.rp s).dp (plain_of_lay _ (SeqAt.canLay_of_shaped hs.1)), (hy.rp s).dp (plain_of_lay _ (SeqAt.canLay_of_shaped hs.2)), hs.1, hs.2, w.frz s (.bl _)⟩
    · cases h
  · rename_i ys
    split at h
    · rename_i hs
      cases h
      rw [Bool.and_eq_true] at hs
      have fu : ∀ {F H : Hp} {x : V}, RpT X.K F H x u → Rp X.K F x u := fun {F H x} h => by
        cases u <;> first | exact h | cases hs.1
      cases neg
      · refine OpR.imp op_in_seq fun x y H Q ⟨F, s, hx, hy, w⟩ => ?_
        obtain ⟨a, vs, rfl, ha, ra⟩ := hy.tup
        refine ⟨a, vs, rfl, .inr (SqT.sub s ha), (fu hx).flat hs.1, ra.flat hs.2, ?_⟩
        rw [RpAll.inV (fu hx) hs.1 ra hs.2]
        exact w.frz s (.bl _)
      · refine OpR.imp op_notIn_seq fun x y H Q ⟨F, s, hx, hy, w⟩ => ?_
        obtain ⟨a, vs, rfl, ha, ra⟩ := hy.tup
        refine ⟨a, vs, rfl, .inr (SqT.sub s ha), (fu hx).flat hs.1, ra.flat hs.2, ?_⟩
        rw [RpAll.inV (fu hx) hs.1 ra hs.2]
        exact w.frz s (.bl _)
    · cases h
  · cases h
theorem cmp_ok {op : CmpOp} {u v : PV} {b : Bool} (hu : X.A.units + 65 < cLine) (h : cmpOp op u v = some b) : OpS X (compareOp op) u v (.frz (.bool b)) := by
  unfold cmpOp at h
  split at h
  · exact eq_ok hu h
  · cases q : eqOp u v with
    | none => rw [q] at h; cases h
    | some c => rw [q] at h; cases h; exact ne_ok hu q
  · cases h; exact ops_intB op_lt
  · cases h; exact ops_intB op_le
  · cases h; exact ops_intB op_gt
  · cases h; exact ops_intB op_ge
  · cases h
    refine OpR.imp op_isN fun x y H Q ⟨F, s, hx, hy, w⟩ => ⟨hy.non, ?_⟩
    rw [(hx.rp s).non_iff]
    exact w.frz s (.bl _)
  · cases h
    refine OpR.imp op_notN fun x y H Q ⟨F, s, hx, hy, w⟩ => ⟨hy.non, ?_⟩
    rw [(hx.rp s).non_iff]
    exact w.frz s (.bl _)
  · cases h
    rename_i a c
    refine OpR.imp op_is_bl fun x y H Q ⟨F, s, hx, hy, w⟩ => ⟨a, c, hx.bl, hy.bl, ?_⟩
    rw [← Bool.beq_eq_decide_eq]
    exact w.frz s (.bl _)
  · cases h
    rename_i a c
    refine OpR.imp op_isnot_bl fun x y H Q ⟨F, s, hx, hy, w⟩ => ⟨a, c, hx.bl, hy.bl, ?_⟩
    rw [← Bool.beq_eq_decide_eq]
    exact w.frz s (.bl _)
  · exact in_ok (neg := false) hu h
  · cases q : inOp u v with
    | none => rw [q] at h; cases h
    | some c => rw [q] at h; cases h; exact in_ok (neg := true) hu q
  · cases h
end
end Ev

/-! Ev5: sorted of a list or a tuple. -/
namespace Ev
open PySem PySem.W PySem.Calls PyProof.Rows
section
variable {prog : Program} {w : World} {A : Around} {E : Value → Shared → Prop} {s : Shared}
theorem collect_tup {l : Addr} {vs : List Value} {Q : List Value → Shared → Prop} (hl : IsTup s.heap l vs.toArray)
    (h : Q vs { s with heap := (s.heap.push (seqObj "list" #[] 0)).update s.heap.objs.size (Obj.mapSeq (· ++ vs.toArray)) }) (hsz : vs.length ≤ sizeLine) :
    wpAny (model prog w) A (collect (.ref l)) Q E s := by
  obtain ⟨o, ho, hc, n, hd⟩ := id hl
  unfold collect
  refine wpAny_bind (wpAny_runValue (codeAny_builtin entry_proto_collect' ?_))
  show wpAny _ _ (do again (.builtin "list.__iadd__" ⟨[← newList [], .ref l], []⟩)) _ _ s
  refine wpAny_bind (wpAny_newList (wpAny_pure ⟨Code.quiet_builtin _ (by decide +kernel), codeAny_builtin entry_list_iadd' ?_⟩))
  show wpAny _ _ (Builtin.List.listExtendWith (.ref s.heap.objs.size) (.ref l) (.ref s.heap.objs.size)) _ _ { s with heap := s.heap.push (seqObj "list" #[] 0) }
  unfold Builtin.List.listExtendWith
  have ho' : (s.heap.push (seqObj "list" #[] 0)).get? l = some o := Heap.get?_push_of_some _ ho
  refine wpAny_bind (wpAny_typeOf (T := "tuple") ⟨o, ho', hc⟩ ?_)
  have ht : (Value.type "tuple" == Value.type "tuple") = true := by rfl
  rw [if_pos (by rw [ht]; simp)]
  refine wpAny_bind (listItems_at ho' hd ?_)
  refine wpAny_bind (listItems_at (xs := #[]) (n := 0) (Heap.get?_push_size _ rfl) rfl ?_)
  rw [if_neg (by simp)]
  refine wpAny_bind (listUpdate_at (xs := #[]) (n := 0) (Heap.get?_push_size _ rfl) rfl ?_ (Nat.zero_le _) (by show (#[] ++ vs.toArray).size ≤ sizeLine + 1; simp only [Array.size_append, List.size_toArray, List.length_nil]; omega))
  refine wpAny_pure ?_
  show wpAny (model prog w) A (do
      let o ← load s.heap.objs.size
      match o.data with
      | .seq xs _ => pure xs.toList
      | _ => unsupported "internal:collect") Q E { s with heap := (s.heap.push (seqObj "list" #[] 0)).update s.heap.objs.size (Obj.mapSeq (· ++ vs.toArray)) }
  refine wpAny_bind (wpAny_load (get?_update_seq (Heap.get?_push_size _ rfl) _) ?_)
  show wpAny _ _ (pure ((#[] : Array Value) ++ vs.toArray).toList) Q E _
  rw [show ((#[] : Array Value) ++ vs.toArray).toList = vs by simp]
  exact wpAny_pure h
theorem sorted_of_sortT {l : Addr} {vs : List Value} {kw : List (Str × Value)} {Q : Value → Shared → Prop} (hl : IsTup s.heap l vs.toArray) (hL : vs.length ≤ sizeLine) (ha1 : argsOk "sorted" ⟨[.ref l], kw⟩) (ha2 : ∀ x, argsOk "list.sort" ⟨[.ref x], kw⟩)
    (body : ∀ E' : Value → Shared → Prop, wpAny (model prog w) A.in1.in1 (Builtin.«list.sort» ⟨[.ref (s.heap.objs.size + 1)], kw⟩) (fun f s' => f = .done (.ret .none) ∧ Q (.ref (s.heap.objs.size + 1)) s') E' { s with heap := copyHeap s.heap vs }) :
    wpAny (model prog w) A (call (.builtin "sorted") [.ref l] kw) Q E s := by
  refine call_function_entry_kw kind_sorted plain_sorted entry_sorted ha1 ?_
  unfold Builtin.«sorted»
  refine wpAny_bind (m := checkCount "sorted" 1 1 _) (wpAny_pure ?_)
  refine wpAny_bind (collect_tup hl ?_ hL)
  refine wpAny_bind (wpAny_newList ?_ hL)
  have hsz : ((s.heap.push (seqObj "list" #[] 0)).update s.heap.objs.size (Obj.mapSeq (· ++ vs.toArray))).objs.size = s.heap.objs.size + 1 := by
    rw [Heap.size_update, size_push']
  show wpAny _ _ _ _ _ { s with heap := copyHeap s.heap vs }
  rw [hsz]
  refine wpAny_bind (wpAny_holding (wpAny_call_entry_kw slot_list_sort ⟨_, copyHeap_at s.heap vs, rfl⟩ entry_list_sort ?body (ha2 _)))
  case body =>
    show wpAny (model prog w) A.in1.in1 (Builtin.«list.sort» ⟨[.ref (s.heap.objs.size + 1)], kw⟩) _ _ _
    refine wpAny_mono (body _) (fun f s' hf => ?_) fun _ _ e => e
    obtain ⟨rfl, hq⟩ := hf
    exact ⟨_, rfl, wpAny_pure ⟨_, rfl, hq⟩⟩
variable {κ : PyProof.Rows.KeyKind}
theorem sorted_valsT {l : Addr} {vs : List Value} {Q : Value → Shared → Prop} (hl : IsTup s.heap l vs.toArray) (S : SortsAt prog w A.in1.in1 { s with heap := sortingHeap (copyHeap s.heap vs) (s.heap.objs.size + 1) vs } κ vs) (hL : vs.length ≤ sizeLine)
    (h : Q (.ref (s.heap.objs.size + 1)) { s with heap := sortedAll s.heap vs (sortVals κ false vs vs).toArray }) : wpAny (model prog w) A (call (.builtin "sorted") [.ref l]) Q E s :=
  sorted_of_sortT hl hL (args_sorted1 _) (fun _ => args_list_sort _) fun _ => list_sort_vals (s := { s with heap := copyHeap s.heap vs }) (copyHeap_at s.heap vs) S hL ⟨rfl, h⟩
variable {β : Type} {vs : List Value} {bs : List β} {enc : β → PyData} {R : Value → β → Prop}
theorem sorted_dataT {l : Addr} {Q : Value → Shared → Prop} (hl : IsTup s.heap l vs.toArray) (e : EachIs R vs bs) (er : EachIs (fun v b => ∃ as, Reads s.heap v (enc b) as) vs bs) (hal : AllAlike (bs.map enc)) (hk : Sortable (bs.map enc)) (hL : bs.length ≤ sizeLine)
    (hu : ∀ b, b ∈ bs → A.units + 2 + (enc b).depth < cLine) (h : ∀ out, out.length = bs.length → EachIs R out (bs.mergeSort (dataLe false enc)) → Q (.ref (s.heap.objs.size + 1)) { s with heap := sortedAll s.heap vs (List.toArray out) }) :
    wpAny (model prog w) A (call (.builtin "sorted") [.ref l]) Q E s := by
  have er' : EachIs (fun v b => ∃ as, Reads (sortingHeap (copyHeap s.heap vs) (s.heap.objs.size + 1) vs) v (enc b) as) vs bs := er.mono fun _ _ ⟨as, r⟩ => ⟨as, PyProof.Rows.Reads.keeps (fun _ _ => sorting_copy_old) r⟩
  exact sorted_valsT hl (SortsAt.data (s := { s with heap := sortingHeap (copyHeap s.heap vs) (s.heap.objs.size + 1) vs }) (each_map (R := fun v d => ∃ as, Reads (sortingHeap (copyHeap s.heap vs) (s.heap.objs.size + 1) vs) v d as) enc er') hal hk (bound_map hu)) (by rw [e.length]; exact hL)
    (h _ (by rw [sortVals_length false rfl]; exact e.length) (sortVals_data false e er' hal))
end
end Ev
namespace Ev
open PySem PySem.Spec L2
open PySem.W (EachIs)
section
variable {X : Cx}
/-- items that stand for data -/
def ItemR (K : Frag) (F : Hp) (u : Value) (d : PV) : Prop := ∃ v, RelV v u ∧ Rp K F v d
theorem RpAll.each {K : Frag} {F : Hp} : ∀ {vs : List V} {us : List Value} {ds : List PV}, Vals vs us → RpAll K F vs ds → EachIs (ItemR K F) us ds
  | _, _, _, .nil, .nil => .nil
  | _, _, _, .cons r t, .cons h q => .cons ⟨_, r, h⟩ (RpAll.each t q)
theorem each_all {K : Frag} {F : Hp} : ∀ {us : List Value} {ds : List PV}, EachIs (ItemR K F) us ds → ∃ vs, Vals vs us ∧ RpAll K F vs ds
  | _, _, .nil => ⟨[], .nil, .nil⟩
  | _, _, .cons h q => by
    obtain ⟨v, r, p⟩ := h
    obtain ⟨vs, rs, ps⟩ := each_all q
    exact ⟨v :: vs, .cons r rs, .cons p ps⟩
theorem plains_mem : ∀ {ds : List PV}, plains ds = true → ∀ d ∈ ds, plain d = true
  | [], _, _, h => by cases h
  | x :: xs, p, d, h => by
    rw [plains, Bool.and_eq_true] at p
    rcases List.mem_cons.mp h with rfl | h
    · exact p.1
    · exact plains_mem p.2 d h
theorem each_mono {α β : Type} {R S : α → β → Prop} : ∀ {as : List α} {bs : List β}, EachIs R as bs → (∀ a b, b ∈ bs → R a b → S a b) → EachIs S as bs
  | _, _, .nil, _ => .nil
  | _, _, .cons h q, f => .cons (f _ _ List.mem_cons_self h) (each_mono q fun a b m => f a b (List.mem_cons_of_mem _ m))
theorem sortable_parts {ds : List PV} (h : sortable ds = true) : W.AllAlike ds ∧ W.Sortable ds ∧ (∀ d ∈ ds, d.depth ≤ 60) ∧ ∀ d ∈ ds, plain d = true := by
  unfold sortable at h
  simp only [Bool.and_eq_true, List.all_eq_true, decide_eq_true_eq, Bool.or_eq_true] at h
  obtain ⟨⟨⟨h1, h2⟩, h3⟩, h4⟩ := h
  refine ⟨fun d hd e he => h1 d hd e he, ?_, h3, fun d hd => plains_mem h4 d hd⟩
  rcases h2 with h2 | h2
  · left
    intro d hd
    have := h2 d hd
    split at this
    · exact ⟨_, _, rfl⟩
    · cases this
  · right
    intro d hd
    have := h2 d hd
    cases d with
    | none => cases this
    | tuple xs => cases this
    | _ => exact ⟨fun z => (nomatch z), fun xs z => (nomatch z)⟩
/-- sorted: a new list of the same things -/
theorem call_sorted (hu : X.A.units + 70 < cLine) {x : PV} {ds : List PV} (hs : seq? x = some ds) (hk : sortable ds = true) :
    CallR X (.builtin "sorted") fun xs H Q => ∃ F v, xs = [v] ∧ Sub F H ∧ RpT X.K F H v x ∧ Want X.K F H (.own (.list (ds.mergeSort (W.dataLe false id)))) Q := by
  intro pins s σ H xs us Q I r h
  obtain ⟨F, v, rfl, sub, hx, w⟩ := h
  obtain ⟨u, rfl, ru⟩ := vals1 r
  obtain ⟨hal, hso, hdep, hpl⟩ := sortable_parts hk
  -- the end, whatever was sorted
  have fin : ∀ (its : List Value) (vs : List V), Vals vs its → RpAll X.K F vs ds → vs.length ≤ sizeLine → EachIs (ItemR X.K F) its ds ∧ EachIs (fun v b => ∃ as, Reads s.heap v (id b) as) its ds ∧
      ∀ out : List Value, out.length = ds.length → EachIs (ItemR X.K F) out (ds.mergeSort (W.dataLe false id)) → EP X pins σ Q (.ref (s.heap.objs.size + 1)) { s with heap := PyProof.Rows.sortedAll s.heap its (List.toArray out) } := by
    intro its vs rv ra hz
    have e1 := RpAll.each rv ra
    refine ⟨e1, each_mono e1 fun a d hd ⟨v, r1, r2⟩ => ?_, fun out hl eo => ?_⟩
    · exact Dp.reads I d v a ((Rp.sub sub r2).dp (hpl d hd)) r1
    · obtain ⟨ws, r1, r2⟩ := each_all eo
      obtain ⟨ep, he'⟩ := PyProof.Rows.sortedAll_at s.heap its (List.toArray out)
      have hlen : ws.length ≤ sizeLine := by rw [r1.length, hl, ← ra.length]; exact hz
      have hn : H (s.heap.objs.size + 1) = none := I.hok.fresh (Nat.le_succ _)
      exact ⟨.ref _, upd H (s.heap.objs.size + 1) (.lst ws), I.laid (t' := s.toks) (fun _ _ => PyProof.Rows.sortedAll_old) (Nat.le_succ _) ⟨hlen, out, ep, r1, he'⟩, rfl, w.lst sub r2 _ hn⟩
  have hdu : ∀ b, b ∈ ds → X.A.units + 2 + (id b : PV).depth < cLine := fun b hb => by have := hdep b hb; simp only [id]; omega
  cases x with
  | list es =>
    cases hs
    obtain ⟨a, vs, rfl, ha, ra⟩ := hx.lst
    cases ru
    obtain ⟨hz, its, n, rv, hl, e⟩ := lstR I ha
    obtain ⟨f1, f2, f3⟩ := fin its vs rv ra hz
    exact PySem.W.sorted_data (enc := id) ⟨_, e, rfl, n, rfl⟩ f1 f2 (by simpa using hal) (by simpa using hso) (by rw [← ra.length]; exact hz) hdu f3
  | tuple es =>
    cases hs
    obtain ⟨a, vs, rfl, ha, ra⟩ := hx.tup
    cases ru
    obtain ⟨its, rv, ht, hz⟩ := I.tuple (SqT.sub sub ha)
    obtain ⟨f1, f2, f3⟩ := fin its vs rv ra hz
    exact sorted_dataT (enc := id) ht f1 f2 (by simpa using hal) (by simpa using hso) (by rw [← ra.length]; exact hz) hdu f3
  | _ => cases hs
end
end Ev

/-! Ev6: built-in functions, subscripts, truth, isinstance, methods. -/
namespace Ev
open PySem PySem.Spec L2
/-- several things, each by itself in H, what they hold in F -/
inductive RTs (K : Frag) (F H : Hp) : List V → List PV → Prop
  | nil : RTs K F H [] []
  | cons {v : V} {vs : List V} {d : PV} {ds : List PV} : RpT K F H v d → RTs K F H vs ds → RTs K F H (v :: vs) (d :: ds)
theorem RTs.one {K : Frag} {F H : Hp} {vs : List V} {d : PV} (h : RTs K F H vs [d]) : ∃ v, vs = [v] ∧ RpT K F H v d := by
  cases h with
  | cons a b => cases b; exact ⟨_, rfl, a⟩
theorem RTs.two {K : Frag} {F H : Hp} {vs : List V} {d e : PV} (h : RTs K F H vs [d, e]) : ∃ v w, vs = [v, w] ∧ RpT K F H v d ∧ RpT K F H w e := by
  cases h with
  | cons a b =>
    obtain ⟨w, rfl, q⟩ := b.one
    exact ⟨_, _, rfl, a, q⟩
theorem ints_some : ∀ {xs : List PV} {ns : List Int}, ints? xs = some ns → xs = ns.map .int
  | [], ns, h => by cases h; rfl
  | .int i :: r, ns, h => by
    unfold ints? at h
    cases q : ints? r with
    | none => rw [q] at h; cases h
    | some ms => rw [q] at h; cases h; rw [List.map_cons, ← ints_some q]
  | .none :: _, _, h => by cases h
  | .bool _ :: _, _, h => by cases h
  | .str _ :: _, _, h => by cases h
  | .list _ :: _, _, h => by cases h
  | .tuple _ :: _, _, h => by cases h
  | .dict _ :: _, _, h => by cases h
theorem bools_some : ∀ {xs : List PV} {ns : List Bool}, bools? xs = some ns → xs = ns.map .bool
  | [], ns, h => by cases h; rfl
  | .bool i :: r, ns, h => by
    unfold bools? at h
    cases q : bools? r with
    | none => rw [q] at h; cases h
    | some ms => rw [q] at h; cases h; rw [List.map_cons, ← bools_some q]
  | .none :: _, _, h => by cases h
  | .int _ :: _, _, h => by cases h
  | .str _ :: _, _, h => by cases h
  | .list _ :: _, _, h => by cases h
  | .tuple _ :: _, _, h => by cases h
  | .dict _ :: _, _, h => by cases h
theorem RpAll.ints {K : Frag} {F : Hp} : ∀ {vs : List V} {ns : List Int}, RpAll K F vs (ns.map .int) → vs = ns.map V.int
  | _, [], h => by cases h; rfl
  | _, n :: ns, h => by
    cases h with
    | cons a b => cases a; rw [List.map_cons, RpAll.ints b]
theorem RpAll.bools {K : Frag} {F : Hp} : ∀ {vs : List V} {ns : List Bool}, RpAll K F vs (ns.map .bool) → vs = ns.map V.bl
  | _, [], h => by cases h; rfl
  | _, n :: ns, h => by
    cases h with
    | cons a b => cases a; rw [List.map_cons, RpAll.bools b]
theorem RpAll.ofInts {K : Frag} {F : Hp} : ∀ (ns : List Int), RpAll K F (ns.map V.int) (ns.map .int)
  | [] => .nil
  | n :: ns => .cons (.int n) (RpAll.ofInts ns)
theorem RpKv.length {K : Frag} {H : Hp} : ∀ {vs : List (Key × V)} {ds : List (PV × PV)}, RpKv K H vs ds → vs.length = ds.length
  | _, _, .nil => rfl
  | _, _, .int _ t => by simp [RpKv.length t]
  | _, _, .str _ t => by simp [RpKv.length t]
theorem RpKv.not {K : Frag} {H : Hp} {kvs : List (Key × V)} {d : PV} {ds : List (PV × PV)} (h : RpKv K H kvs ((.none, d) :: ds)) : False := by cases h
def bltVal : Blt → Value
  | .len => .builtin "len" | .abs => .builtin "abs" | .min2 => .builtin "min" | .max2 => .builtin "max" | .mn => .builtin "min" | .mx => .builtin "max"
  | .sum => .builtin "sum" | .all => .builtin "all" | .any => .builtin "any" | .sorted => .builtin "sorted" | .int => .type "int" | .list => .type "list" | .tuple => .type "tuple"
  | .repr => .builtin "repr"
section
variable {X : Cx}
/-- a built-in called with data -/
def CallS (X : Cx) (f : Value) (us : List PV) (r : Rv) : Prop := CallR X f fun xs H Q => ∃ F, Sub F H ∧ RTs X.K F H xs us ∧ Want X.K F H r Q
theorem blt_ok {b : Blt} {us : List PV} {r : Rv} (hc : X.calm = true) (hu : X.A.units + 70 < cLine) (h : bltOp b us = some r) : CallS X (bltVal b) us r := by
  unfold bltOp at h
  split at h
  · cases h
    refine CallR.imp call_len_seq fun xs H Q ⟨F, s, hx, w⟩ => ?_
    obtain ⟨v, rfl, hv⟩ := hx.one
    obtain ⟨a, vs, rfl, ha, ra⟩ := hv.lst
    exact ⟨a, vs, rfl, .inl (.inl ha), by rw [ra.length]; exact w.frz s (.int _)⟩
  · cases h
    refine CallR.imp call_len_seq fun xs H Q ⟨F, s, hx, w⟩ => ?_
    obtain ⟨v, rfl, hv⟩ := hx.one
    obtain ⟨a, vs, rfl, ha, ra⟩ := hv.tup
    exact ⟨a, vs, rfl, .inr (SqT.sub s ha), by rw [ra.length]; exact w.frz s (.int _)⟩
  · cases h
    refine CallR.imp call_len_seq fun xs H Q ⟨F, s, hx, w⟩ => ?_
    obtain ⟨v, rfl, hv⟩ := hx.one
    rcases hv with ⟨a, kvs, rfl, _, hk⟩ | ⟨a, vs, es, rfl, e, ha, ra⟩
    · exact hk.not.elim
    · cases e
      exact ⟨a, vs, rfl, .inl ha, by rw [ra.length]; exact w.frz s (.int _)⟩
  · rename_i kvs hn
    cases h
    refine CallR.imp call_lenD fun xs H Q ⟨F, s, hx, w⟩ => ?_
    obtain ⟨v, rfl, hv⟩ := hx.one
    rcases hv with ⟨a, kvs, rfl, ha, hk⟩ | ⟨a, vs, es, rfl, e, ha, ra⟩
    · exact ⟨a, kvs, rfl, ha, by rw [hk.length]; exact w.frz s (.int _)⟩
    · exact (hn _ (by rw [e])).elim
  · cases h
    refine CallR.imp call_abs fun xs H Q ⟨F, s, hx, w⟩ => ?_
    obtain ⟨v, rfl, hv⟩ := hx.one
    rw [hv.int]
    exact ⟨_, rfl, w.frz s (.int _)⟩
  · cases h
    refine CallR.imp (call_min2 hc) fun xs H Q ⟨F, s, hx, w⟩ => ?_
    obtain ⟨v, v2, rfl, hv, hv2⟩ := hx.two
    rw [hv.int, hv2.int]
    exact ⟨_, _, rfl, w.frz s (.int _)⟩
  · cases h
    refine CallR.imp (call_max2 hc) fun xs H Q ⟨F, s, hx, w⟩ => ?_
    obtain ⟨v, v2, rfl, hv, hv2⟩ := hx.two
    rw [hv.int, hv2.int]
    exact ⟨_, _, rfl, w.frz s (.int _)⟩
  · rename_i xs
    cases q : ints? xs with
    | none => rw [q] at h; cases h
    | some ns =>
      rw [q] at h
      cases q2 : ns.min? with
      | none => simp [q2] at h
      | some m =>
        simp only [Option.bind_some, q2, Option.map_some, Option.some.injEq] at h
        subst h
        rw [ints_some q]
        obtain ⟨m1, m2⟩ := List.min?_eq_some_iff.mp q2
        refine CallR.imp (cr_min hc) fun xs H Q ⟨F, s, hx, w⟩ => ?_
        obtain ⟨v, rfl, hv⟩ := hx.one
        obtain ⟨a, vs, rfl, ha, ra⟩ := hv.lst
        rw [ra.ints] at ha
        refine ⟨a, ns, rfl, .inl ha, List.length_pos_of_mem m1, fun m' h1 h2 => ?_⟩
        rw [show m' = m from Int.le_antisymm (h2 m m1) (m2 m' h1)]
        exact w.frz s (.int _)
  · rename_i xs
    cases q : ints? xs with
    | none => rw [q] at h; cases h
    | some ns =>
      rw [q] at h
      cases q2 : ns.max? with
      | none => simp [q2] at h
      | some m =>
        simp only [Option.bind_some, q2, Option.map_some, Option.some.injEq] at h
        subst h
        rw [ints_some q]
        obtain ⟨m1, m2⟩ := List.max?_eq_some_iff.mp q2
        refine CallR.imp (cr_max hc) fun xs H Q ⟨F, s, hx, w⟩ => ?_
        obtain ⟨v, rfl, hv⟩ := hx.one
        obtain ⟨a, vs, rfl, ha, ra⟩ := hv.lst
        rw [ra.ints] at ha
        refine ⟨a, ns, rfl, .inl ha, List.length_pos_of_mem m1, fun m' h1 h2 => ?_⟩
        rw [show m' = m from Int.le_antisymm (m2 m' h1) (h2 m m1)]
        exact w.frz s (.int _)
  · rename_i xs
    cases q : ints? xs with
    | none => rw [q] at h; cases h
    | some ns =>
      rw [q] at h
      cases h
      rw [ints_some q]
      refine CallR.imp (cr_sum hc) fun xs H Q ⟨F, s, hx, w⟩ => ?_
      obtain ⟨v, rfl, hv⟩ := hx.one
      obtain ⟨a, vs, rfl, ha, ra⟩ := hv.lst
      rw [ra.ints] at ha
      exact ⟨a, ns, rfl, .inl ha, w.frz s (.int _)⟩
  · rename_i xs
    cases q : bools? xs with
    | none => rw [q] at h; cases h
    | some ns =>
      rw [q] at h
      cases h
      rw [bools_some q]
      refine CallR.imp (cr_all hc) fun xs H Q ⟨F, s, hx, w⟩ => ?_
      obtain ⟨v, rfl, hv⟩ := hx.one
      obtain ⟨a, vs, rfl, ha, ra⟩ := hv.lst
      rw [ra.bools] at ha
      exact ⟨a, ns, rfl, .inl ha, w.frz s (.bl _)⟩
  · rename_i xs
    cases q : bools? xs with
    | none => rw [q] at h; cases h
    | some ns =>
      rw [q] at h
      cases h
      rw [bools_some q]
      refine CallR.imp (cr_any hc) fun xs H Q ⟨F, s, hx, w⟩ => ?_
      obtain ⟨v, rfl, hv⟩ := hx.one
      obtain ⟨a, vs, rfl, ha, ra⟩ := hv.lst
      rw [ra.bools] at ha
      exact ⟨a, ns, rfl, .inl ha, w.frz s (.bl _)⟩
  · rename_i x
    cases q : seq? x with
    | none => rw [q] at h; cases h
    | some ds =>
      rw [q] at h
      simp only [Option.bind_some] at h
      split at h
      · rename_i hk
        cases h
        refine CallR.imp (call_sorted hu q hk) fun xs H Q ⟨F, s, hx, w⟩ => ?_
        obtain ⟨v, rfl, hv⟩ := hx.one
        exact ⟨F, v, rfl, s, hv, w⟩
      · cases h
  · cases h
    refine CallR.imp call_int1 fun xs H Q ⟨F, s, hx, w⟩ => ?_
    obtain ⟨v, rfl, hv⟩ := hx.one
    rw [hv.int]
    exact .inl ⟨_, rfl, w.frz s (.int _)⟩
  · cases h
    refine CallR.imp call_int1 fun xs H Q ⟨F, s, hx, w⟩ => ?_
    obtain ⟨v, rfl, hv⟩ := hx.one
    rw [hv.bl]
    exact .inr ⟨_, rfl, w.frz s (.int _)⟩
  · rename_i x
    cases x with
    | list ds =>
      cases h
      refine CallR.imp call_list_of fun xs H Q ⟨F, s, hx, w⟩ => ?_
      obtain ⟨v, rfl, hv⟩ := hx.one
      obtain ⟨a, vs, rfl, ha, ra⟩ := hv.lst
      exact ⟨a, vs, rfl, .inl (.inl ha), w.lst s ra⟩
    | tuple ds =>
      cases h
      refine CallR.imp call_list_of fun xs H Q ⟨F, s, hx, w⟩ => ?_
      obtain ⟨v, rfl, hv⟩ := hx.one
      obtain ⟨a, vs, rfl, ha, ra⟩ := hv.tup
      exact ⟨a, vs, rfl, .inr (SqT.sub s ha), w.lst s ra⟩
    | _ => cases h
  · rename_i x
    cases x with
    | list ds =>
      cases h
      refine CallR.imp call_tuple_of fun xs H Q ⟨F, s, hx, w⟩ => ?_
      obtain ⟨v, rfl, hv⟩ := hx.one
      obtain ⟨a, vs, rfl, ha, ra⟩ := hv.lst
      exact ⟨a, vs, rfl, .inl ⟨.inl ha, w.tup s ra⟩⟩
    | tuple ds =>
      cases h
      refine CallR.imp call_tuple_of fun xs H Q ⟨F, s, hx, w⟩ => ?_
      obtain ⟨v, rfl, hv⟩ := hx.one
      obtain ⟨a, vs, rfl, ha, ra⟩ := hv.tup
      exact ⟨a, vs, rfl, .inr ⟨SqT.sub s ha, w.frz s (.tup ha ra)⟩⟩
    | _ => cases h
  · rename_i b
    cases h
    intro pins s σ H xs us Q I rx ⟨F, sub, hx, w⟩
    obtain ⟨v, rfl, hv⟩ := hx.one
    rw [hv.bl] at rx
    obtain ⟨u, rfl, ru⟩ := vals1 rx
    cases (show u = Value.bool b from ru)
    exact PySem.P.repr_of_bool ⟨.str _, H, I.tok _, ⟨_, rfl⟩, w.frz sub (.str _)⟩
  · cases h

/-! ### subscripts, slices -/
def IxS (X : Cx) (u v d : PV) : Prop := IxR X fun x y H Q => ∃ F, Sub F H ∧ RpT X.K F H x u ∧ RpT X.K F H y v ∧ Want X.K F H (.frz d) Q
theorem at_ok {K : Frag} {F : Hp} {vs : List V} {ds : List PV} {i : Int} {d : PV} (ra : RpAll K F vs ds) (h : ((ixN ds.length i).bind fun j => ds[j]?) = some d) : ∃ v, atI vs i = some v ∧ Rp K F v d := by
  cases q : ixN ds.length i with
  | none => rw [q] at h; cases h
  | some j =>
    rw [q] at h
    obtain ⟨v, h1, h2⟩ := ra.get h
    refine ⟨v, ?_, h2⟩
    unfold atI
    rw [ra.length, show L2.ixN ds.length i = some j from q]
    exact h1
theorem idx_ok {u v d : PV} (h : idxOp u v = some d) : IxS X u v d := by
  unfold idxOp at h
  split at h
  · refine IxR.imp ix_list fun x y H Q ⟨F, s, hx, hy, w⟩ => ?_
    obtain ⟨a, vs, rfl, ha, ra⟩ := hx.lst
    obtain ⟨z, h1, h2⟩ := at_ok ra h
    exact ⟨a, vs, _, z, rfl, hy.int, .inl ha, h1, w.frz s h2⟩
  · refine IxR.imp ix_tup fun x y H Q ⟨F, s, hx, hy, w⟩ => ?_
    obtain ⟨a, vs, rfl, ha, ra⟩ := hx.tup
    obtain ⟨z, h1, h2⟩ := at_ok ra h
    exact ⟨a, vs, _, z, rfl, hy.int, SqT.sub s ha, h1, w.frz s h2⟩
  · refine IxR.imp ix_list fun x y H Q ⟨F, s, hx, hy, w⟩ => ?_
    rcases hx with ⟨a, kvs, rfl, _, hk⟩ | ⟨a, vs, es, rfl, e, ha, ra⟩
    · exact hk.not.elim
    · cases e
      obtain ⟨z, h1, h2⟩ := at_ok ra h
      exact ⟨a, vs, _, z, rfl, hy.int, ha, h1, w.frz s h2⟩
  · cases h
def SlS (X : Cx) (u : PV) (lo hi : Option Int) (r : Rv) : Prop := SlR X fun x l h H Q => l = lo ∧ h = hi ∧ ∃ F, Sub F H ∧ RpT X.K F H x u ∧ Want X.K F H r Q
theorem SlR.imp {r r' : V → Option Int → Option Int → Hp → VK → Prop} (h : SlR X r) (i : ∀ x l u H Q, r' x l u H Q → r x l u H Q) : SlR X r' := fun pins s σ H x v vl vu lo hi sl Q I a b c d q => h pins s σ H x v vl vu lo hi sl Q I a b c d (i _ _ _ _ _ q)
theorem cut_ok {K : Frag} {F : Hp} {vs : List V} {ds : List PV} (ra : RpAll K F vs ds) (lo hi : Option Int) : RpAll K F (cutV vs lo hi) (cut ds lo hi) := by
  have e1 : ∀ d o, HT.sIx vs.length d o = sIx ds.length d o := fun d o => by rw [ra.length]; rfl
  unfold cutV cut
  rw [e1, e1, ra.length]
  exact (ra.drop _).take _
theorem slc_ok {u : PV} {lo hi : Option Int} {r : Rv} (h : slcOp lo hi u = some r) : SlS X u lo hi r := by
  unfold slcOp at h
  split at h
  · cases h
    refine SlR.imp sl_list fun x l u H Q ⟨e1, e2, F, s, hx, w⟩ => ?_
    subst e1 e2
    obtain ⟨a, vs, rfl, ha, ra⟩ := hx.lst
    exact ⟨a, vs, rfl, .inl ha, w.lst s (cut_ok ra _ _)⟩
  · cases h
    rename_i ds
    refine SlR.imp sl_tupA fun x l u H Q ⟨e1, e2, F, s, hx, w⟩ => ?_
    subst e1 e2
    obtain ⟨a, vs, rfl, ha, ra⟩ := hx.tup
    refine ⟨a, vs, rfl, SqT.sub s ha, fun hw => ?_, fun _ => w.tup s (cut_ok ra _ _)⟩
    have e : cut ds l u = ds := by
      have h1 : sIx ds.length 0 l = 0 := by rw [← ra.length]; exact hw.1
      have h2 : sIx ds.length ds.length u = ds.length := by rw [← ra.length]; exact hw.2
      unfold cut
      rw [h1, h2]
      simp
    rw [e] at w
    exact w.frz s (.tup ha ra)
  · cases h

/-! ### truth -/
def TruS (X : Cx) (u : PV) (b : Bool) : Prop := TruR X fun x H Q => ∃ F, Sub F H ∧ RpT X.K F H x u ∧ Q b H
theorem emptyL {K : Frag} {F : Hp} {vs : List V} {ds : List PV} (ra : RpAll K F vs ds) : (!vs.isEmpty) = !ds.isEmpty := by cases ra <;> rfl
theorem emptyKv {K : Frag} {F : Hp} {vs : List (Key × V)} {ds : List (PV × PV)} (ra : RpKv K F vs ds) : (!vs.isEmpty) = !ds.isEmpty := by cases ra <;> rfl
theorem truV {K : Frag} {F H : Hp} {x : V} {u : PV} {b : Bool} (h : truth u = some b) (sub : Sub F H) (hx : RpT K F H x u) : TruV K x H b := by
  unfold truth at h
  split at h
  · cases h; rw [hx.non]; rfl
  · cases h; rw [hx.bl]; rfl
  · cases h; rw [hx.int]; show _ = _; rename_i i; by_cases e : i = 0 <;> simp [e]
  · split at h
    · rename_i z hz
      cases h
      rw [hx.str]
      refine ⟨by rw [← lim_eq]; exact hz, ?_⟩
      by_cases e : (z.length : Int) = 0
      · simp [e]
      · have e2 : ¬ z.length = 0 := fun q => e (by rw [q]; rfl)
        simp [e2]
    · cases h
  · cases h
    obtain ⟨a, vs, rfl, ha, ra⟩ := hx.lst
    exact .inl ⟨vs, .inl ha, (emptyL ra).symm⟩
  · cases h
    obtain ⟨a, vs, rfl, ha, ra⟩ := hx.tup
    exact .inr (.inl ⟨vs, SqT.sub sub ha, (emptyL ra).symm⟩)
  · cases h
  · rename_i kvs hn
    cases h
    rcases hx with ⟨a, kvs, rfl, ha, hk⟩ | ⟨a, vs, es, rfl, e, ha, ra⟩
    · exact .inr (.inr ⟨kvs, ha, (emptyKv hk).symm⟩)
    · exact (hn _ e).elim
theorem truth_ok {u : PV} {b : Bool} (h : truth u = some b) : TruS X u b := by
  intro pins s σ H x v Q I rx ⟨F, sub, hx, q⟩
  exact tru_ok pins s σ H x v Q I rx ⟨b, truV h sub hx, q⟩

/-! ### isinstance -/
def tyName : PV → String
  | .none => "NoneType" | .bool _ => "bool" | .int _ => "int" | .str _ => "str" | .list _ => "list" | .tuple _ => "tuple" | .dict _ => "dict"
theorem tyX_list {K : Frag} {H : Hp} {a : Addr} {xs : List V} (h : Rd H a (.lst xs)) : TyX K H (.ref a) (.type "list") := by
  rcases h with h | ⟨o, h⟩
  · exact .base (.lst h)
  · exact .base (.frz h)
theorem tyX_tup {K : Frag} {H : Hp} {a : Addr} {xs : List V} (h : SqT K H a xs) : TyX K H (.ref a) (.type "tuple") := by
  rcases h with (h | ⟨o, h⟩) | ⟨o, its, n, h1, h2, _⟩
  · exact .base (.tup h)
  · exact .fTuple h
  · exact .kTuple h1 h2
theorem isi_kit (T : Ty) (d : PV) : kitB (tyName d) T.name = some (isiB T d) := by
  cases T <;> cases d <;> (dsimp only [tyName, Ty.name, isiB]; decide +kernel)
theorem Rp.ty {K : Frag} {F H : Hp} (s : Sub F H) {v : V} {d : PV} (h : RpT K F H v d) (n : isScript d = false) : TyX K H v (.type (tyName d)) := by
  cases d with
  | none => rw [h.non]; exact .base .non
  | bool b => rw [h.bl]; exact .base (.bl b)
  | int b => rw [h.int]; exact .base (.int b)
  | str b => rw [h.str]; exact .base (.str b)
  | list ds => obtain ⟨a, vs, rfl, ha, ra⟩ := h.lst; exact tyX_list ha
  | tuple ds => obtain ⟨a, vs, rfl, ha, ra⟩ := h.tup; exact tyX_tup (SqT.sub s ha)
  | dict ds =>
    rcases h with ⟨a, kvs, rfl, ha, hk⟩ | ⟨a, vs, es, rfl, e, ha, ra⟩
    · exact .base (.dK ha)
    · subst e; cases n
/-- isinstance by data: the class as a built-in type -/
theorem isi_ok {T : Ty} {d : PV} {b : Bool} (h : isiOp T d = some b) :
    CallR X (.builtin "isinstance") fun xs H Q => ∃ F v, xs = [v, .ty T.name] ∧ Sub F H ∧ RpT X.K F H v d ∧ Q (.bl b) H := by
  unfold isiOp at h
  split at h
  · cases h
  · rename_i n
    cases h
    refine CallR.imp call_isi fun xs H Q ⟨F, v, e, s, hx, q⟩ => ?_
    subst e
    exact ⟨v, .ty T.name, _, _, _, rfl, .ty _, Rp.ty s hx (by simpa using n), kit_ty (isi_kit T d), q⟩

/-! ### methods -/
def mthName : Mth → String × Str × String
  | .count => ("list", "count", "list.count")
  | .index => ("list", "index", "list.index")
def MtS (X : Cx) (id : String) (u : PV) (us : List PV) (r : Rv) : Prop := MtR X id fun x xs H Q => ∃ F, Sub F H ∧ RpT X.K F H x u ∧ RTs X.K F H xs us ∧ Want X.K F H r Q
theorem mth_ok {m : Mth} {u : PV} {us : List PV} {r : Rv} (hu : X.A.units + 70 < cLine) (h : mthOp m u us = some r) : MtS X (mthName m).2.2 u us r := by
  unfold mthOp at h
  split at h
  · rename_i xs k
    cases q : ints? xs with
    | none => rw [q] at h; cases h
    | some ns =>
      rw [q] at h
      cases h
      rw [ints_some q]
      refine MtR.imp mt_lcount fun x xs H Q ⟨F, s, hx, hxs, w⟩ => ?_
      obtain ⟨v, rfl, hv⟩ := hxs.one
      obtain ⟨a, vs, rfl, ha, ra⟩ := hx.lst
      rw [ra.ints] at ha
      exact ⟨a, ns, k, rfl, by rw [hv.int], .inl ha, w.frz s (.int _)⟩
  · rename_i xs y
    split at h
    · rename_i hs
      rw [Bool.and_eq_true] at hs
      cases q : xs.findIdx? (fun z => PyData.eqv z y) with
      | none => rw [q] at h; cases h
      | some j =>
        rw [q] at h
        cases h
        obtain ⟨hj, e1, e2⟩ := List.findIdx?_eq_some_iff_getElem.mp q
        refine MtR.imp (mt_indexD (by omega)) fun x zs H Q ⟨F, s, hx, hxs, w⟩ => ?_
        obtain ⟨v, rfl, hv⟩ := hxs.one
        have d1 := (hx.rp s).dp (plain_of_lay _ (SeqAt.canLay_of_shaped hs.1))
        obtain ⟨a, vs, rfl, ha, ra⟩ := hx.lst
        refine ⟨a, v, y, xs, j, xs[j], rfl, rfl, d1, (hv.rp s).dp (plain_of_lay _ (SeqAt.canLay_of_shaped hs.2)), hs.1, hs.2, List.getElem?_eq_getElem hj, e1, fun m z hm hz => ?_, w.frz s (.int _)⟩
        obtain ⟨h1, h2⟩ := List.getElem?_eq_some_iff.mp hz
        have := e2 m hm
        rw [h2] at this
        simpa using this
    · cases h
  · cases h
end
end Ev

/-! Ev7: what loops and comprehensions walk; enumerate of a tuple. -/
namespace Ev
open PySem PySem.Spec L2
open PySem.AutoSeq1 (wpAny_loadPart')
theorem enum_newT (l : Addr) (items : Array Value) (n : Nat) (dct : Option Addr) (sl : Array (Option Value)) :
    Meets (Builtin.«enumerate.__new__» ⟨[.type "enumerate", .ref l], []⟩) (fun _ R s => s.heap.get? l = some { cls := .type "tuple", dict := dct, data := .seq items n, slots := sl } ∧
      R (.ok (.ret (.ref (s.heap.push { cls := .type "tuple_iterator", data := .fields #[.ref l, .int 0 0] }).objs.size)))
        { s with heap := (s.heap.push { cls := .type "tuple_iterator", data := .fields #[.ref l, .int 0 0] }).push { cls := .type "enumerate", data := .fields #[.none, .bool false, .ref s.heap.objs.size, rawInt 0, .none, .none] } }) :=
  .of_wp fun prog w A R s h => by
    obtain ⟨hp, g, d, tk, os⟩ := s; obtain ⟨hl, h⟩ := h
    have hsub := sub_enumerate
    have hL : Heap.IsTuple (Shared.heap ⟨hp, g, d, tk, os⟩) l items := ⟨_, hl, rfl, n, rfl⟩
    wp_walk using wpAny_loadPart' hl
    refine wpAny_stack_any fun st => wpAny_pure ?_
    split
    · rename_i c _ _ _ _ _
      cases (c == Value.type "enumerate")
      · wp_walk using wpAny_loadPart' hl, wpAny_pyIter_tuple hL
        exact ⟨_, rfl, h⟩
      · wp_walk using wpAny_loadPart' hl, wpAny_pyIter_tuple hL
        exact ⟨_, rfl, h⟩
    · wp_walk using wpAny_loadPart' hl, wpAny_pyIter_tuple hL
      exact ⟨_, rfl, h⟩
section
variable {prog : Program} {w : World} {A : Around} {E : Value → Shared → Prop} {s : Shared}
theorem call_enumerate_tup {l : Addr} {items : Array Value} {Q : Value → Shared → Prop} (hL : s.heap.IsTuple l items)
    (h : ∀ h', IsEnum h' (s.heap.objs.size + 1) s.heap.objs.size 0 .none → h'.IsTupleIter s.heap.objs.size l 0 → h'.objs.size = s.heap.objs.size + 2 →
      (∀ b o, s.heap.get? b = some o → h'.get? b = some o) → Q (.ref (s.heap.objs.size + 1)) { s with heap := h' }) :
    wpAny (model prog w) A (call (.type "enumerate") [.ref l]) Q E s := by
  obtain ⟨⟨c, dct, dt, sl⟩, hl, hc, n, hd⟩ := hL
  replace hc : c = .type "tuple" := hc
  replace hd : dt = .seq items n := hd
  subst hc hd
  refine callType_new F.called_enumerate (by decide) (F.typeCall_enumerate_1 _) (F.newCall_enumerate_1 _) (fun obj => F.args_object_init_2 obj _) F.entry_enumerate_new
    (enum_newT l items n dct sl) ⟨hl, ?_⟩
  have hz : (s.heap.push { cls := .type "tuple_iterator", data := .fields #[.ref l, .int 0 0] }).objs.size = s.heap.objs.size + 1 := Heap.size_push ..
  show _ ∧ _
  rw [hz]
  have he : IsEnum ((s.heap.push { cls := .type "tuple_iterator", data := .fields #[.ref l, .int 0 0] }).push
      { cls := .type "enumerate", data := .fields #[.none, .bool false, .ref s.heap.objs.size, rawInt 0, .none, .none] }) (s.heap.objs.size + 1) s.heap.objs.size 0 .none := by
    have := Heap.get?_push_size (s.heap.push { cls := .type "tuple_iterator", data := .fields #[.ref l, .int 0 0] })
      (o := { cls := .type "enumerate", data := .fields #[.none, .bool false, .ref s.heap.objs.size, rawInt 0, .none, .none] }) rfl
    rw [hz] at this; exact this
  refine ⟨⟨_, he, rfl⟩, h _ he ⟨_, Heap.get?_push_of_some _ (Heap.get?_push_size _ rfl), rfl, rfl⟩ (by rw [Heap.size_push, hz]) fun b o x => Heap.get?_push_of_some _ (Heap.get?_push_of_some _ x)⟩
end
def IteT (K : Frag) (a : Addr) : It :=
  ⟨fun i H => ∃ (xs : List V) (x : V), SqT K H a xs ∧ xs[i]? = some x, fun i H v H' => ∃ T x, v = .ref T ∧ H T = none ∧ H' = upd H T (.tup [.int (i : Nat), x]) ∧ ∀ xs, SqT K H a xs → xs[i]? = some x, fun i H => ∃ xs : List V, SqT K H a xs ∧ xs.length ≤ i⟩
theorem turn_enumT {P : Program} {w : World} {K : Frag} {elts : List Expr} {kk : Nat} {tpos : Pos} (a e it : Addr) :
    Turn P w K (.Tuple elts kk tpos) (IteT K a) [e, it] e (fun i h => (∃ old, IsEnum h e it ((i : Nat) : Int) old) ∧ h.IsTupleIter it a i ∧ e ≠ it ∧ a ≠ it ∧ e ≠ a) where
  mem := by simp
  obj := fun i h st b hb => by
    obtain ⟨⟨old, he⟩, ⟨o, ho, hc, hd⟩, _⟩ := st
    have e' : b = e ∨ b = it := by simpa using hb
    rcases e' with z | z
    · rw [z]; exact ⟨_, he, fun v q => nomatch q⟩
    · rw [z]; exact ⟨o, ho, fun v q => by rw [hd] at q; cases q⟩
  keep := fun i h h' st k => let ⟨⟨old, he⟩, hi, hne⟩ := st; ⟨⟨old, k e (by simp) _ he⟩, hi.at fun o q => k it (by simp) o q, hne⟩
  item := by
    intro X hP hw hK hc i pins s σ H E I hf st hg
    subst hP hw hK
    obtain ⟨⟨old, he⟩, hit, hne, hai, hea⟩ := st
    obtain ⟨xs, x, hq, hx⟩ := hg
    obtain ⟨its, rv, p, hz⟩ := I.tuple hq
    obtain ⟨u, hu, ru⟩ := rv.get hx
    have hel : e < s.heap.objs.size := Heap.lt_size he
    have hil : it < s.heap.objs.size := by obtain ⟨_, q, _⟩ := hit; exact Heap.lt_size q
    have hlt : i < its.toArray.size := by
      have := (List.getElem?_eq_some_iff.mp hu).1
      simpa using this
    refine wpAny_pyNext_enum_itemD (Draws.tuple (A := X.A.in1) (I.ok.hd hc) it a hai its.toArray) he ⟨hit, p⟩ hlt hne (by simp [hne, hea]) fun y h' tk hy ho hst' hT hsz hk => ?_
    have ey : y = u := by
      have : its[i]? = some y := by simpa using hy
      rw [hu] at this; exact (Option.some.inj this).symm
    subst ey
    refine ⟨_, rfl, wpAny_letOwnedTupleGo_enum (s := { s with heap := h', toks := tk + 1 }) ho fun h'' he' sb => ?_⟩
    have hT2 : h''.get? s.heap.objs.size = some { cls := .type "tuple", data := .seq #[.int i tk, y] } := (sb.2 _ (Nat.ne_of_gt hel)).trans hT
    have new : ObjOk X.prog X.w (upd H s.heap.objs.size (.tup [.int (i : Nat), x])) h'' s.heap.objs.size (.tup [.int (i : Nat), x]) :=
      ⟨by show 2 ≤ sizeLine; decide, [.int i tk, y], .cons ⟨_, rfl⟩ (.cons ru .nil), ⟨_, hT2, rfl, _, rfl⟩⟩
    have I1 : L2.Inv X pins σ (upd H s.heap.objs.size (.tup [.int (i : Nat), x])) { s with heap := h'', toks := tk + 1 } :=
      I.turnedNew (ch := [e, it]) (fun b ob hb q => (sb.2 b (fun z => hb (by simp [z]))).trans (hk b ob (fun z => hb (by simp [z])) (fun z => hb (by simp [z])) q)) hf (Nat.le_refl _) new
    refine ⟨.ref s.heap.objs.size, _, I1, rfl, ⟨_, x, rfl, I.hok.fresh (Nat.le_refl _), rfl, fun ys hy => by rw [I.tuple_inj hy hq]; exact hx⟩, ⟨⟨y, ?_⟩, hst'.1.at fun o q => (sb.2 it (Ne.symm hne)).trans q, hne, hai, hea⟩, fun b hb => ?_⟩
    · have e1 : ((i + 1 : Nat) : Int) = (i : Int) + 1 := by omega
      rw [e1]; exact he'
    · have hb' : b < s.heap.objs.size := by
        have e' : b = e ∨ b = it := by simpa using hb
        rcases e' with z | z
        · rw [z]; exact hel
        · rw [z]; exact hil
      rw [upd_ne (Nat.ne_of_lt hb')]
      exact (hf b hb).1
  done := by
    intro X hP hw hK hc i pins s σ H E I hf st hg
    subst hP hw hK
    obtain ⟨⟨old, he⟩, hit, hne, hai, hea⟩ := st
    obtain ⟨xs, hq, hx⟩ := hg
    obtain ⟨its, rv, p, hz⟩ := I.tuple hq
    obtain ⟨f0, f1, f2, f3, f4, f5⟩ := hf it (by simp)
    have hl := rv.length
    have D := Draws.tuple (prog := X.prog) (w := X.w) (A := X.A.in1) (I.ok.hd hc) it a hai its.toArray
    -- the end: the iterator is at or behind the last item
    have hT : s.TypeIs (.ref e) "enumerate" := ⟨_, he, rfl⟩
    unfold pyNext
    refine wpAny_bind (wpAny_attempt (wpAny_callSpecial?_slot (name := Str.ofString "__next__") hT F.slot_enumerate_next
      (wpAny_call_entry F.slot_enumerate_next hT F.entry_enumerate_next ?_ (F.args_enumerate_next_1 _))))
    show wpAny _ _ (field (.ref e) 2 >>= _) _ _ _
    refine wpAny_bind (wpAny_field he rfl (x := .ref it) rfl ?_)
    refine wpAny_bind (wpAny_nextOf_tuple_end (I.ok.hd hc) hit p (by simp; omega) fun h' x he' hx' => ?_)
    obtain ⟨o, ho, hc⟩ := hx'
    refine wpAny_bind (wpAny_isInstance (T := "StopIteration") (b := true) ⟨o, ho, hc⟩ isSubtype_stop ?_)
    exact wpAny_pure ⟨rfl, I.turned (t' := s.toks) (fun b o hb q => he' b o hb q) f0 f1 f3 f4 f5⟩
  self := fun A i s Q E st h => let ⟨⟨_, he⟩, _⟩ := st; wpAny_pyIter_enum he h
def iEnumT (K : Frag) (ta : TA) : TI := fun σ H R => ta σ H fun vs H1 => ∃ a xs, vs = [.ref a] ∧ SqT K H1 a xs ∧ R (IteT K a) H1
def iEnumA (K : Frag) (ta : TA) : TI := fun σ H R => ta σ H fun vs H1 => ∃ a xs, vs = [.ref a] ∧ ((SqL K H1 a xs ∧ R (Ite K a) H1) ∨ (SqT K H1 a xs ∧ R (IteT K a) H1))
theorem pi_enumA {X : Cx} {e : Expr} {ta : TA} {p pos tpos : Pos} {elts : List Expr} {kk : Nat} (hg : Gl X "enumerate") (hm : X.mg "enumerate" = none) (ha : PA X [e] ta) (hs : starEach [e] X.env = [(false, eval e X.env)]) :
    PI X (.Tuple elts kk tpos) (.Call (.Name "enumerate" p) [e] [] pos) (iEnumA X.K ta) := by
  refine ⟨fun pins s σ H R I h => ?_⟩
  refine PyProof.Rows.Call_ (ld_blt I hg hm PyProof.Rows.boot_enumerate (PyProof.Rows.callWith_type1 (thn (ha.run pos pins s σ H _ I h) fun us s1 ⟨vs, H1, I1, r1, q1⟩ => ?_) hs rfl))
  obtain ⟨a, xs, ex, q1⟩ := q1
  subst ex
  cases r1 with
  | cons r rr =>
    cases rr
    cases r
    have fresh : ∀ b, b ∈ [s1.heap.objs.size + 1, s1.heap.objs.size] → FpOk X pins H1 b := fun b hb => by
      have e' : b = s1.heap.objs.size + 1 ∨ b = s1.heap.objs.size := by simpa using hb
      have hle : s1.heap.objs.size ≤ b := by
        rcases e' with z | z
        · rw [z]; exact Nat.le_add_right _ _
        · rw [z]; exact Nat.le_refl _
      exact I1.fpOk hle (I1.hok.fresh hle)
    rcases q1 with ⟨hq, q⟩ | ⟨hq, q⟩
    · obtain ⟨its, rv, p', hz⟩ := I1.list hq
      refine call_enumerate_list p'.isList fun h' he hit hsz hk => wpAny_pyIter_enum he ?_
      have I2 : L2.Inv X pins σ H1 { s1 with heap := h' } := I1.kept (t' := s1.toks) hk
      exact ⟨s1.heap.objs.size + 1, [s1.heap.objs.size + 1, s1.heap.objs.size], _, _, H1, rfl, I2, turn_enum a (s1.heap.objs.size + 1) s1.heap.objs.size, ⟨⟨.none, he⟩, hit, Nat.succ_ne_self _⟩, fresh, q⟩
    · obtain ⟨its, rv, p', hz⟩ := I1.tuple hq
      obtain ⟨ob, hob, _⟩ := id p'
      have hal := Heap.lt_size hob
      refine call_enumerate_tup (show s1.heap.IsTuple a its.toArray from p') fun h' he hit hsz hk => wpAny_pyIter_enum he ?_
      have I2 : L2.Inv X pins σ H1 { s1 with heap := h' } := I1.kept (t' := s1.toks) hk
      exact ⟨s1.heap.objs.size + 1, [s1.heap.objs.size + 1, s1.heap.objs.size], _, _, H1, rfl, I2, turn_enumT a (s1.heap.objs.size + 1) s1.heap.objs.size, ⟨⟨.none, he⟩, hit, Nat.succ_ne_self _, Nat.ne_of_lt hal, fun z => Nat.ne_of_lt (Nat.lt_succ_of_lt hal) z.symm⟩, fresh, q⟩

/-! ### walks by data -/
structure WalkD (K : Frag) (F1 : Hp) (J : It) (ds : List PV) : Prop where
  len : ds.length ≤ sizeLine
  go : ∀ (i : Nat) (H : Hp), i < ds.length → Sub F1 H → J.go i H
  stop : ∀ H : Hp, Sub F1 H → J.stop ds.length H
  yld : ∀ (i : Nat) (F H : Hp) (x : V) (H' : Hp), i < ds.length → Sub F1 F → Sub F H → J.yld i H x H' → ∃ F' d, Grow F H F' H' ∧ ds[i]? = some d ∧ Rp K F' x d
section
variable {K : Frag} {F1 : Hp}
theorem walkD_list {a : Addr} {xs : List V} {ds : List PV} (h : SqL K F1 a xs) (r : RpAll K F1 xs ds) (hz : xs.length ≤ sizeLine) : WalkD K F1 (Itl K a) ds := by
  have hl := r.length
  refine ⟨by omega, fun i H hi s => ⟨xs, xs[i], SqL.sub s h, by simp⟩, fun H s => ⟨xs, SqL.sub s h, by omega⟩, fun i F H x H' hi s1 s2 y => ?_⟩
  obtain ⟨e, y⟩ := y
  subst e
  obtain ⟨d, h1, h2⟩ := r.getV (y xs (SqL.sub (s1.trans s2) h))
  exact ⟨F, d, Grow.refl s2, h1, Rp.sub s1 h2⟩
theorem walkD_tup {a : Addr} {xs : List V} {ds : List PV} (h : SqT K F1 a xs) (r : RpAll K F1 xs ds) (hz : xs.length ≤ sizeLine) : WalkD K F1 (Itt K a) ds := by
  have hl := r.length
  refine ⟨by omega, fun i H hi s => ⟨xs, xs[i], SqT.sub s h, by simp⟩, fun H s => ⟨xs, SqT.sub s h, by omega⟩, fun i F H x H' hi s1 s2 y => ?_⟩
  obtain ⟨e, y⟩ := y
  subst e
  obtain ⟨d, h1, h2⟩ := r.getV (y xs (SqT.sub (s1.trans s2) h))
  exact ⟨F, d, Grow.refl s2, h1, Rp.sub s1 h2⟩
theorem walkD_range {lo : Int} {n : Nat} (hz : n ≤ sizeLine) : WalkD K F1 (Itr lo n) ((List.range n).map fun i => .int (lo + (i : Nat))) := by
  refine ⟨by simpa using hz, fun i H hi s => (show i < n by simpa using hi), fun H s => by simp [Itr], fun i F H x H' hi s1 s2 y => ?_⟩
  obtain ⟨e, y⟩ := y
  subst e y
  have hi' : i < n := by simpa using hi
  exact ⟨F, _, Grow.refl s2, by simp [hi'], .int _⟩
theorem pairD {F H : Hp} {T : Addr} {x y : V} {d e : PV} (s : Sub F H) (hT : H T = none) (hx : Rp K F x d) (hy : Rp K F y e) :
    Grow F H (upd F T (.tup [x, y])) (upd H T (.tup [x, y])) ∧ Rp K (upd F T (.tup [x, y])) (.ref T) (.tuple [d, e]) := by
  have s1 : Sub F (upd F T (.tup [x, y])) := Sub.upd (s.none hT)
  exact ⟨Grow.frz s hT, .tup (.of upd_same) (.cons (Rp.sub s1 hx) (.cons (Rp.sub s1 hy) .nil))⟩
theorem walkD_enum {a : Addr} {xs : List V} {ds : List PV} (h : SqL K F1 a xs) (r : RpAll K F1 xs ds) (hz : xs.length ≤ sizeLine) : WalkD K F1 (Ite K a) (ds.zipIdx.map fun p => .tuple [.int (p.2 : Nat), p.1]) := by
  have hl := r.length
  refine ⟨by simp; omega, fun i H hi s => ⟨xs, xs[i]'(by simpa [hl] using hi), SqL.sub s h, by simp⟩, fun H s => ⟨xs, SqL.sub s h, by simp [hl]⟩, fun i F H v H' hi s1 s2 y => ?_⟩
  obtain ⟨T, x, rfl, hT, rfl, y⟩ := y
  obtain ⟨d, h1, h2⟩ := r.getV (y xs (SqL.sub (s1.trans s2) h))
  obtain ⟨g, q⟩ := pairD s2 hT (.int (i : Nat)) (Rp.sub s1 h2)
  exact ⟨_, _, g, by simp [h1], q⟩
theorem walkD_enumT {a : Addr} {xs : List V} {ds : List PV} (h : SqT K F1 a xs) (r : RpAll K F1 xs ds) (hz : xs.length ≤ sizeLine) : WalkD K F1 (IteT K a) (ds.zipIdx.map fun p => .tuple [.int (p.2 : Nat), p.1]) := by
  have hl := r.length
  refine ⟨by simp; omega, fun i H hi s => ⟨xs, xs[i]'(by simpa [hl] using hi), SqT.sub s h, by simp⟩, fun H s => ⟨xs, SqT.sub s h, by simp [hl]⟩, fun i F H v H' hi s1 s2 y => ?_⟩
  obtain ⟨T, x, rfl, hT, rfl, y⟩ := y
  obtain ⟨d, h1, h2⟩ := r.getV (y xs (SqT.sub (s1.trans s2) h))
  obtain ⟨g, q⟩ := pairD s2 hT (.int (i : Nat)) (Rp.sub s1 h2)
  exact ⟨_, _, g, by simp [h1], q⟩
theorem walkD_zip {a b : Addr} {xs ys : List V} {ds es : List PV} (h : SqL K F1 a xs) (r : RpAll K F1 xs ds) (h' : SqL K F1 b ys) (r' : RpAll K F1 ys es) (hz : xs.length ≤ sizeLine) : WalkD K F1 (Itz K a b) (List.zipWith (fun a b => .tuple [a, b]) ds es) := by
  have hl := r.length
  have hl' := r'.length
  refine ⟨by simp; omega, fun i H hi s => ?_, fun H s => ⟨xs, ys, SqL.sub s h, SqL.sub s h', by simp; omega⟩, fun i F H v H' hi s1 s2 y => ?_⟩
  · have h1 : i < xs.length ∧ i < ys.length := by simp at hi; omega
    exact ⟨xs, ys, xs[i]'h1.1, ys[i]'h1.2, SqL.sub s h, SqL.sub s h', by simp [h1.1], by simp [h1.2]⟩
  · obtain ⟨T, x, z, rfl, hT, rfl, y, y'⟩ := y
    obtain ⟨d, h1, h2⟩ := r.getV (y xs (SqL.sub (s1.trans s2) h))
    obtain ⟨e, h3, h4⟩ := r'.getV (y' ys (SqL.sub (s1.trans s2) h'))
    obtain ⟨g, q⟩ := pairD s2 hT (Rp.sub s1 h2) (Rp.sub s1 h4)
    exact ⟨_, _, g, by simp [List.getElem?_zipWith, h1, h3], q⟩
theorem walkD_zipT {a b : Addr} {xs ys : List V} {ds es : List PV} (h : SqT K F1 a xs) (r : RpAll K F1 xs ds) (h' : SqT K F1 b ys) (r' : RpAll K F1 ys es) (hz : xs.length ≤ sizeLine) : WalkD K F1 (RZ.ItzT K a b) (List.zipWith (fun a b => .tuple [a, b]) ds es) := by
  have hl := r.length
  have hl' := r'.length
  refine ⟨by simp; omega, fun i H hi s => ?_, fun H s => ⟨xs, ys, SqT.sub s h, SqT.sub s h', by simp; omega⟩, fun i F H v H' hi s1 s2 y => ?_⟩
  · have h1 : i < xs.length ∧ i < ys.length := by simp at hi; omega
    exact ⟨xs, ys, xs[i]'h1.1, ys[i]'h1.2, SqT.sub s h, SqT.sub s h', by simp [h1.1], by simp [h1.2]⟩
  · obtain ⟨T, x, z, rfl, hT, rfl, y, y'⟩ := y
    obtain ⟨d, h1, h2⟩ := r.getV (y xs (SqT.sub (s1.trans s2) h))
    obtain ⟨e, h3, h4⟩ := r'.getV (y' ys (SqT.sub (s1.trans s2) h'))
    obtain ⟨g, q⟩ := pairD s2 hT (Rp.sub s1 h2) (Rp.sub s1 h4)
    exact ⟨_, _, g, by simp [List.getElem?_zipWith, h1, h3], q⟩
end
end Ev

/-! Ev8: the syntax held against the text; what is known where an expression runs. -/
namespace Ev
open PySem PySem.Spec L2

/-! ### the check -/
structure Sx where
  N : List Str
  fns : List Str
  gs : List Str
def visB (sc : Scope) (x : Str) : Bool := match sc.names.lookup x with
  | some .local => true | some .cell => true | some .free => true | _ => false
def locB (sc : Scope) (x : Str) : Bool := match sc.names.lookup x with
  | some .local => true | some .cell => true | _ => false
def gloB (sc : Scope) (x : Str) : Bool := match sc.names.lookup x with
  | some .globalImplicit => true | _ => false
def plainName (x : Str) : Bool := !(x == ("__debug__" : Str)) && !(x == ("__classdict__" : Str))
def notStar : Expr → Bool
  | .Starred .. => false
  | _ => true
def notSlice : Expr → Bool
  | .Slice .. => false
  | _ => true
def baseOk : Expr → Bool
  | .Call .. => false
  | _ => true
def notSet : Expr → Bool
  | .Set .. => false
  | _ => true
/-- a local name -/
def nameB (S : Sx) (sc : Scope) (i : Nat) (x : Str) : Bool := decide (S.N[i]? = some x) && visB sc x && plainName x
def bltName : Blt → Str
  | .len => "len" | .abs => "abs" | .min2 => "min" | .max2 => "max" | .mn => "min" | .mx => "max" | .sum => "sum" | .all => "all" | .any => "any"
  | .sorted => "sorted" | .int => "int" | .list => "list" | .tuple => "tuple" | .repr => "repr"
def mthNm : Mth → Str
  | .count => "count"
  | .index => "index"
def bltNames : List Str := ["len", "abs", "min", "max", "sum", "all", "any", "sorted", "int", "list", "tuple", "repr", "range", "enumerate", "zip", "isinstance", "bool", "str", "dict"]
def tgSlots : Tg → List Nat
  | .name i => [i]
  | .tup ts => tgSlotsL ts
where tgSlotsL : List Tg → List Nat
  | [] => []
  | t :: ts => tgSlots t ++ tgSlotsL ts
mutual
def chkT (S : Sx) (sc : Scope) (own : Str → Bool) : Tg → Expr → Bool
  | .name i, x => match x with
    | .Name y _ => decide (S.N[i]? = some y) && locB sc y && (own y || decide (sc.names.lookup y = some .local))
    | _ => false
  | .tup ts, x => match x with
    | .Tuple xs _ _ => chkTs S sc own ts xs && xs.all notStar
    | _ => false
def chkTs (S : Sx) (sc : Scope) (own : Str → Bool) : List Tg → List Expr → Bool
  | [], xs => match xs with | [] => true | _ => false
  | t :: ts, xs => match xs with | x :: ys => chkT S sc own t x && chkTs S sc own ts ys | _ => false
end
/-- what is walked: the expressions within -/
def itArgs (sc : Scope) (k : ItK) (tg x : Expr) : Option (List Expr) := match k with
  | .val => some [x]
  | .rng => match x with
    | .Call (.Name f _) ys [] _ => if f = "range" ∧ gloB sc f = true ∧ ys.all notStar = true ∧ (ys.length = 1 ∨ ys.length = 2) then some ys else none
    | _ => none
  | .enm => match tg, x with
    | .Tuple _ _ _, .Call (.Name f _) [y] [] _ => if f = "enumerate" ∧ gloB sc f = true ∧ notStar y = true then some [y] else none
    | _, _ => none
  | .zip => match tg, x with
    | .Tuple _ _ _, .Call (.Name f _) [y, z] [] _ => if f = "zip" ∧ gloB sc f = true ∧ notStar y = true ∧ notStar z = true then some [y, z] else none
    | _, _ => none
mutual
def chk (S : Sx) (sc : Scope) : E → Expr → Bool
  | .cint i, x => match x with | .Constant (.int j) _ _ => decide (i = j) | _ => false
  | .cbl b, x => match x with | .Constant (.bool c) _ _ => b == c | _ => false
  | .cnon, x => match x with | .Constant .none _ _ => true | _ => false
  | .cstr z, x => match x with | .Constant (.str y) _ _ => decide (z = y) | _ => false
  | .var i, x => match x with | .Name y _ => nameB S sc i y | _ => false
  | .mv i, x => match x with | .Name y _ => nameB S sc i y | _ => false
  | .peek i, x => match x with | .Name y _ => nameB S sc i y | _ => false
  | .glb g, x => match x with | .Name y _ => decide (S.gs[g]? = some y) && gloB sc y && plainName y | _ => false
  | .bin op a b, x => match x with | .BinOp l o r _ => decide (o = op) && chk S sc a l && chk S sc b r | _ => false
  | .neg a, x => match x with | .UnaryOp .USub y _ => chk S sc a y | _ => false
  | .not a, x => match x with | .UnaryOp .Not y _ => chk S sc a y | _ => false
  | .bop op es, x => match x with | .BoolOp o ys _ => decide (o = op) && chks S sc es ys && !ys.isEmpty | _ => false
  | .cmp op a b, x => match x with | .Compare l [o] [r] _ => decide (o = op) && chk S sc a l && chk S sc b r && notSet r | _ => false
  | .chain o1 o2 a b d, x => match x with | .Compare l [p1, p2] [m, r] _ => decide (p1 = o1) && decide (p2 = o2) && chk S sc a l && chk S sc b m && chk S sc d r && notSet m && notSet r | _ => false
  | .ite t a b, x => match x with | .IfExp t' a' b' _ => chk S sc t t' && chk S sc a a' && chk S sc b b' | _ => false
  | .tup es, x => match x with | .Tuple ys _ _ => chkA S sc es ys | _ => false
  | .lst es, x => match x with | .List ys _ => chkA S sc es ys | _ => false
  | .dct0, x => match x with | .Dict [] [] _ => true | _ => false
  | .star _, _ => false
  | .idx a i, x => match x with | .Subscript o k _ => chk S sc a o && chk S sc i k && notSlice k | _ => false
  | .slcL a lo, x => match x with | .Subscript o (.Slice (some l) none none _) _ => chk S sc a o && chk S sc lo l | _ => false
  | .slcH a hi, x => match x with | .Subscript o (.Slice none (some h) none _) _ => chk S sc a o && chk S sc hi h | _ => false
  | .slcLH a lo hi, x => match x with | .Subscript o (.Slice (some l) (some h) none _) _ => chk S sc a o && chk S sc lo l && chk S sc hi h | _ => false
  | .isi T a, x => match x with | .Call (.Name f _) [y, .Name t _] [] _ => decide (f = "isinstance") && chk S sc a y && decide (t = PySem.Str.ofString T.name) && gloB sc f && gloB sc t && notStar y | _ => false
  | .blt b es, x => match x with | .Call (.Name f _) ys [] _ => decide (f = bltName b) && gloB sc f && chks S sc es ys && ys.all notStar && !ys.isEmpty | _ => false
  | .lrng es, x => match x with | .Call (.Name f _) [.Call (.Name g _) ys [] _] [] _ => decide (f = "list") && decide (g = "range") && gloB sc f && gloB sc g && chks S sc es ys && ys.all notStar && (decide (ys.length = 1) || decide (ys.length = 2)) | _ => false
  | .mth m o es, x => match x with
    | .Call (.Attribute o' nm apos) ys [] cpos => decide (nm = mthNm m) && chk S sc o o' && chks S sc es ys && ys.all notStar && baseOk o' && decide (apos.endLine = cpos.line) && decide (ys.length = 1)
    | _ => false
  | .call f es, x => match x with | .Call (.Name y _) ys [] _ => decide (S.fns[f]? = some y) && gloB sc y && plainName y && chks S sc es ys && ys.all notStar && !ys.isEmpty | _ => false
  | .lc own elt tg k its ifs, x => match x with
    | .ListComp elt' [⟨tg', it', ifs', a⟩] scope _ => decide (a = 0) && blkC S.N sc scope own && chkT S (relS scope sc) (fun y => scope.names.lookup y == some .cell) tg tg' && chk S (relS scope sc) elt elt' && chks S (relS scope sc) ifs ifs'
        && decide (ifs'.length ≤ 1) && (tgSlots tg).all (fun i => (own.map (·.2)).contains i) && notSet it' && (match itArgs sc k tg' it' with | some ys => chks S sc its ys | none => false)
    | _ => false
  | .lc2 .., _ => false
def chks (S : Sx) (sc : Scope) : List E → List Expr → Bool
  | [], xs => match xs with | [] => true | _ => false
  | e :: es, xs => match xs with | x :: ys => chk S sc e x && chks S sc es ys | _ => false
/-- the items of a display, with stars -/
def chkA (S : Sx) (sc : Scope) : List E → List Expr → Bool
  | [], xs => match xs with | [] => true | _ => false
  | .star e :: es, xs => match xs with | .Starred x _ :: ys => chk S sc e x && chkA S sc es ys | _ => false
  | e :: es, xs => match xs with | x :: ys => notStar x && chk S sc e x && chkA S sc es ys | _ => false
end
theorem visB_ok {sc : Scope} {x : Str} (h : visB sc x = true) : Vis sc x := by
  unfold visB at h
  split at h
  · exact .inl (by assumption)
  · exact .inr (.inl (by assumption))
  · exact .inr (.inr (by assumption))
  · cases h
theorem locB_ok {sc : Scope} {x : Str} (h : locB sc x = true) : Loc sc x := by
  unfold locB at h
  split at h
  · exact .inl (by assumption)
  · exact .inr (by assumption)
  · cases h
theorem gloB_ok {X : Cx} {sc : Scope} {x : Str} (e : X.env.scope = sc) (h : gloB sc x = true) : Gl X x := by
  unfold gloB at h
  split at h
  · unfold Gl Env.kindOf; rw [e]; assumption
  · cases h
theorem plainName_ok {x : Str} (h : plainName x = true) : (x == ("__debug__" : Str)) = false ∧ (x == ("__classdict__" : Str)) = false := by
  unfold plainName at h
  simpa using h
theorem star_cons {e : Expr} {es : List Expr} {env : PySem.Env} (h : notStar e = true) : starEach (e :: es) env = (false, eval e env) :: starEach es env := by
  cases e <;> first | rfl | cases h
theorem star_plain {pos : Pos} {env : PySem.Env} : ∀ {es : List Expr}, es.all notStar = true → (backTo pos (starEach es env)).any (·.1) = false
  | [], _ => rfl
  | e :: es, h => by
    rw [List.all_cons, Bool.and_eq_true] at h
    rw [star_cons h.1]
    have := star_plain (pos := pos) (env := env) h.2
    simpa [backTo] using this
theorem notSet_marks {op : CmpOp} {b : Expr} (h : notSet b = true) : behindInMarks op b = false := by
  cases b <;> first | rfl | cases h
theorem notSet_folded {b : Expr} {env : PySem.Env} (h : notSet b = true) : ∀ x, foldedSetIterable b env x = pure x := by
  intro x
  cases b <;> first | rfl | cases h
theorem notSlice_ix {b : Expr} (h : notSlice b = true) : PlainIx b := by
  intro o i
  cases b <;> first | rfl | cases h
theorem baseOk_base {o : Expr} {m : Str} {env : PySem.Env} (h : baseOk o = true) : attributeBase o m env (eval o env) = eval o env := by
  cases o <;> first | rfl | cases h

/-! ### what is known where an expression runs -/
/-- the lent arguments' places -/
inductive ArgsR (K : Frag) (F H : Hp) (lent : List Nat) : Nat → List V → List PV → List Addr → Prop
  | nil {k : Nat} : ArgsR K F H lent k [] [] []
  | val {k : Nat} {v : V} {vs : List V} {d : PV} {ds : List PV} {as : List Addr} : lent.contains k = false → Rp K F v d → ArgsR K F H lent (k + 1) vs ds as → ArgsR K F H lent k (v :: vs) (d :: ds) as
  | lent {k : Nat} {a : Addr} {vs : List V} {d : PV} {ds : List PV} {as : List Addr} : lent.contains k = true → F a = none → OwnR K F H a d → ArgsR K F H lent (k + 1) vs ds as → ArgsR K F H lent k (.ref a :: vs) (d :: ds) (a :: as)
/-- behind a call: as, what was lent, holds os -/
structure Post (K : Frag) (F H : Hp) (as : List Addr) (os : List PV) (r : Rv) (v : V) (F' H' : Hp) : Prop where
  ff : Sub F F'
  fh : Sub F' H'
  keep : ∀ a o, H a = some o → a ∉ as → H' a = some o
  new : ∀ a o, F' a = some o → F a = some o ∨ H a = none
  outs : Paired (fun a o => OwnR K F' H' a o) as os
  res : ResR K H F' H' v r
/-- a def's promise: what the evaluator tells -/
def spF (K : Frag) (p : Prg) (n f : Nat) : Sp := fun vs H Q _ => ∃ F args as r os, Sub F H ∧ p.Φ n f args = some (r, os) ∧ ArgsR K F H (p.lent f) 0 vs args as ∧ as.Nodup ∧
  ∀ v F' H', Post K F H as os r v F' H' → Q v H'
structure XC (p : Prg) (n : Nat) (S : Sx) (X : Cx) : Prop where
  calm : X.calm = true
  nd : X.N.Nodup
  hN : X.N = S.N
  room : Room n X.A
  blt : ∀ x ∈ bltNames, X.mg x = none
  gs : ∀ (g : Nat) (x : Str) (d : PV), S.gs[g]? = some x → p.G[g]? = some d → ∃ v u, X.mg x = some u ∧ RelV v u ∧ ∀ H : Hp, Rp X.K H v d
  fn : ∀ (f : Nat) (x : Str), S.fns[f]? = some x → ∃ fa fd ps, X.mg x = some (.ref fa) ∧ PySem.W.keepIn X.K (.ref fa) = true ∧ Binds X.K fd ps [] ∧ FnOk X.prog X.w X.K X.mg X.base CX0 n fa fd ps (spF X.K p n f)
section
variable {p : Prg} {n : Nat} {S : Sx} {X : Cx}
theorem XC.u (c : XC p n S X) : X.A.units + 200 < cLine := by have := c.room.un; omega
theorem XC.blk (c : XC p n S X) (s : Shared) (H : Hp) (scope : Scope) (cenv : PySem.Env) (fp : List Addr) : XC p n S (X.blk s H scope cenv fp) :=
  ⟨c.calm, c.nd, c.hN, c.room, c.blt, c.gs, c.fn⟩
/-! ### readings -/
/-- an expression that the evaluator runs -/
def tU (K : Frag) (c : Cf) (e : E) : TE := fun σ H Q => ∃ B s r s', ev c e s = .ok r s' ∧ ∃ F, EnvR K B F H σ s ∧ ∀ v H' F', Sub F F' → EnvR K B F' H' σ s' → RvR K B F' H' σ s' v r → Q v H'
inductive RvFs (K : Frag) (F : Hp) (σ : L2.St) : List V → List Rv → Prop
  | nil : RvFs K F σ [] []
  | cons {v : V} {vs : List V} {r : Rv} {rs : List Rv} : RvF K F σ v r → RvFs K F σ vs rs → RvFs K F σ (v :: vs) (r :: rs)
theorem RvFs.sub {K : Frag} {F F' : Hp} {σ : L2.St} (s : Sub F F') : ∀ {vs : List V} {rs : List Rv}, RvFs K F σ vs rs → RvFs K F' σ vs rs
  | _, _, .nil => .nil
  | _, _, .cons h t => .cons (RvF.sub h s) (RvFs.sub s t)
theorem RvFs.append {K : Frag} {F : Hp} {σ : L2.St} : ∀ {vs ws : List V} {rs qs : List Rv}, RvFs K F σ vs rs → RvFs K F σ ws qs → RvFs K F σ (vs ++ ws) (rs ++ qs)
  | _, _, _, _, .nil, s => s
  | _, _, _, _, .cons r t, s => .cons r (RvFs.append t s)
theorem RvFs.ofAll {K : Frag} {F : Hp} {σ : L2.St} : ∀ {vs : List V} {ds : List PV}, RpAll K F vs ds → RvFs K F σ vs (ds.map .frz)
  | _, _, .nil => .nil
  | _, _, .cons h t => .cons h (RvFs.ofAll t)
def tUs (K : Frag) (c : Cf) (es : List E) : TA := fun σ H Q => ∃ B s rs s', evs c es s = .ok rs s' ∧ ∃ F, EnvR K B F H σ s ∧ ∀ vs H' F', Sub F F' → EnvR K B F' H' σ s' → RvFs K F' σ vs rs → Q vs H'
def tUA (K : Frag) (c : Cf) (es : List E) : TA := fun σ H Q => ∃ B s rs s', evA c es s = .ok rs s' ∧ ∃ F, EnvR K B F H σ s ∧ ∀ vs H' F', Sub F F' → EnvR K B F' H' σ s' → RvFs K F' σ vs rs → Q vs H'
/-- a test that the evaluator runs -/
def tUT (K : Frag) (c : Cf) (e : E) : TT := fun σ H Q => ∃ B s r s' d b, ev c e s = .ok r s' ∧ opd r s' = .ok d s' ∧ truth d = some b ∧ ∃ F, EnvR K B F H σ s ∧ ∀ H' F', Sub F F' → EnvR K B F' H' σ s' → Q b H'
theorem tU_good {K : Frag} {c : Cf} {e : E} {B : Bs} {s s' : Env} {r : Rv} {F H : Hp} {σ : L2.St} {Q : VK} (h : ev c e s = .ok r s') (en : EnvR K B F H σ s)
    (k : ∀ v H' F', Sub F F' → EnvR K B F' H' σ s' → RvF K F' σ v r → Q v H') : tU K c e σ H Q :=
  ⟨B, s, r, s', h, F, en, fun v H' F' s1 e1 r1 => by
    obtain ⟨F2, s2, e2, r2⟩ := r1.good e1
    exact k v H' F2 (s1.trans s2) e2 r2⟩
theorem PE.imp {x : Expr} {t t' : TE} (h : PE X x t) (i : ∀ σ H Q, t' σ H Q → t σ H Q) : PE X x t' := ⟨fun pins s σ H Q I q => h.run pins s σ H Q I (i _ _ _ q)⟩
theorem PT.imp {x : Expr} {t t' : TT} (h : PT X x t) (i : ∀ σ H Q, t' σ H Q → t σ H Q) : PT X x t' := ⟨fun pins s σ H Q I q => h.run pins s σ H Q I (i _ _ _ q)⟩
theorem PW.imp {x : Expr} {t t' : TT} (h : PW X x t) (i : ∀ σ H Q, t' σ H Q → t σ H Q) : PW X x t' := ⟨fun w pins s σ H Q I q => h.run w pins s σ H Q I (i _ _ _ q)⟩
theorem PA.imp {x : List Expr} {t t' : TA} (h : PA X x t) (i : ∀ σ H Q, t' σ H Q → t σ H Q) : PA X x t' := ⟨fun pos pins s σ H Q I q => h.run pos pins s σ H Q I (i _ _ _ q)⟩
theorem PE_sized {x : Expr} {t : TE} (h : PE X x t) : PE X x (fun σ H Q => t σ H fun v H1 => (∀ a xs, v = .ref a → SqL X.K H1 a xs ∨ SqT X.K H1 a xs → xs.length ≤ sizeLine) → Q v H1) := ⟨fun pins s σ H Q I q => by
  refine thn (h.run pins s σ H _ I q) fun u s1 ⟨v, H1, I1, r, k⟩ => ⟨v, H1, I1, r, k fun a xs _ hs => ?_⟩
  rcases hs with hs | hs
  · obtain ⟨_, _, _, hz⟩ := I1.list hs; exact hz
  · obtain ⟨_, _, _, hz⟩ := I1.tuple hs; exact hz⟩
theorem PA_sized {x : List Expr} {t : TA} (h : PA X x t) : PA X x (fun σ H Q => t σ H fun v H1 => (∀ a xs, SqL X.K H1 a xs ∨ SqT X.K H1 a xs → xs.length ≤ sizeLine) → Q v H1) := ⟨fun pos pins s σ H Q I q => by
  refine thn (h.run pos pins s σ H _ I q) fun u s1 ⟨v, H1, I1, r, k⟩ => ⟨v, H1, I1, r, k fun a xs hs => ?_⟩
  rcases hs with hs | hs
  · obtain ⟨_, _, _, hz⟩ := I1.list hs; exact hz
  · obtain ⟨_, _, _, hz⟩ := I1.tuple hs; exact hz⟩
theorem PI.imp {tg x : Expr} {t t' : TI} (h : PI X tg x t) (i : ∀ σ H Q, t' σ H Q → t σ H Q) : PI X tg x t' := ⟨fun pins s σ H Q I q => h.run pins s σ H Q I (i _ _ _ q)⟩
theorem PG.imp {x : Expr} {t t' : TG} (h : PG X x t) (i : ∀ v σ H Q, t' v σ H Q → t v σ H Q) : PG X x t' := ⟨fun pins s σ H v u Q I r q => h.run pins s σ H v u Q I r (i _ _ _ _ q)⟩
end
end Ev

/-! Ev9: names stored, forgotten, frozen. -/
namespace Ev
open PySem PySem.Spec L2
section
variable {K : Frag} {B : Bs} {F H : Hp} {σ σ' : L2.St} {s : Env}
def isIo : Slot → Bool
  | .io _ => true
  | _ => false
theorem set_get {α : Type} {l : List α} {i j : Nat} {x y : α} (h : (l.set i x)[j]? = some y) : (j = i ∧ y = x ∧ i < l.length) ∨ (j ≠ i ∧ l[j]? = some y) := by
  by_cases e : i = j
  · subst e
    have hl : i < l.length := by
      have := (List.getElem?_eq_some_iff.mp h).1
      simpa using this
    rw [List.getElem?_set_self hl] at h
    exact .inl ⟨rfl, (Option.some.inj h).symm, hl⟩
  · rw [List.getElem?_set_ne e] at h
    exact .inr ⟨fun z => e z.symm, h⟩
theorem SlotR.other {i : Nat} {x : Slot} (h : SlotR K B F H σ i x) (e : σ'[i]? = σ[i]?) : SlotR K B F H σ' i x := by
  cases x with
  | emp => trivial
  | frz d => obtain ⟨v, h1, h2⟩ := h; exact ⟨v, by rw [e]; exact h1, h2⟩
  | own d => obtain ⟨v, h1, h2⟩ := h; exact ⟨v, by rw [e]; exact h1, h2⟩
  | io d => obtain ⟨v, h1, h2⟩ := h; exact ⟨v, by rw [e]; exact h1, h2⟩
/-- one place is told anew, as a thing that is not ours -/
theorem EnvR.put (en : EnvR K B F H σ s) {i : Nat} {y x : Slot} (hy : s[i]? = some y) (ny : isIo y = false) (hl : σ'.length = σ.length) (ho : ∀ j, j ≠ i → σ'[j]? = σ[j]?) (hx : SlotR K B F H σ' i x) (nx : isOwn x = false) : EnvR K B F H σ' (s.set i x) := by
  refine ⟨en.fh, by rw [List.length_set, hl]; exact en.len, fun j z h => ?_, fun j k z w a h1 h2 o1 o2 e1 e2 => ?_, en.tmp, fun p hp j z h o => ?_, en.tmpN, fun p hp => ?_, en.keep, en.fnew, en.fold⟩
  · rcases set_get h with ⟨rfl, rfl, _⟩ | ⟨ne, h⟩
    · exact hx
    · exact (en.slot j z h).other (ho j ne)
  · rcases set_get h1 with ⟨rfl, rfl, _⟩ | ⟨n1, h1⟩
    · rw [nx] at o1; cases o1
    · rcases set_get h2 with ⟨rfl, rfl, _⟩ | ⟨n2, h2⟩
      · rw [nx] at o2; cases o2
      · rw [ho _ n1] at e1; rw [ho _ n2] at e2
        exact en.apart j k z w a h1 h2 o1 o2 e1 e2
  · rcases set_get h with ⟨rfl, rfl, _⟩ | ⟨n1, h1⟩
    · rw [nx] at o; cases o
    · rw [ho _ n1]; exact en.tmpA p hp j z h1 o
  · obtain ⟨d, h1, h2⟩ := en.lent p hp
    have hne : p.1 ≠ i := fun z => by rw [z, hy] at h1; cases h1; cases ny
    exact ⟨d, by rw [List.getElem?_set_ne (Ne.symm hne)]; exact h1, by rw [ho _ hne]; exact h2⟩
theorem EnvR.lt (en : EnvR K B F H σ s) {i : Nat} {y : Slot} (hy : s[i]? = some y) : i < σ.length := by
  rw [← en.len]; exact (List.getElem?_eq_some_iff.mp hy).1
theorem EnvR.putFrz (en : EnvR K B F H σ s) {i : Nat} {y : Slot} {v : V} {d : PV} (hy : s[i]? = some y) (ny : isIo y = false) (r : Rp K F v d) : EnvR K B F H (σ.set i (some v)) (s.set i (.frz d)) :=
  en.put hy ny (by simp) (fun j n => List.getElem?_set_ne (Ne.symm n)) ⟨v, List.getElem?_set_self (en.lt hy), r⟩ rfl
/-- a name forgets what is its own -/
theorem EnvR.putEmp (en : EnvR K B F H σ s) {i : Nat} {y : Slot} (hy : s[i]? = some y) (ny : isIo y = false) : EnvR K B F H σ (s.set i .emp) :=
  en.put hy ny rfl (fun _ _ => rfl) trivial rfl
theorem EnvR.ownAt (en : EnvR K B F H σ s) {i : Nat} {d : PV} (hy : s[i]? = some (.own d)) : ∃ a, σ[i]? = some (some (.ref a)) ∧ F a = none ∧ B.H0 a = none ∧ OwnR K F H a d ∧
    (∀ (j : Nat) (x : Slot), j ≠ i → s[j]? = some x → isOwn x = true → σ[j]? ≠ some (some (.ref a))) ∧ ∀ p ∈ B.T, p.1 ≠ a := by
  obtain ⟨a, h1, h2, h3, h4⟩ := en.slot i _ hy
  exact ⟨a, h1, h2, h3, h4, fun j x n hx o z => n (en.apart j i x _ a hx hy o rfl z h1), fun p hp z => en.tmpA p hp i _ hy rfl (by rw [h1, z])⟩
/-- moved out of a name -/
theorem EnvR.move (en : EnvR K B F H σ s) {i : Nat} {d : PV} (hy : s[i]? = some (.own d)) : ∃ v, σ[i]? = some (some v) ∧ EnvR K B F H σ (s.set i .emp) ∧ RvR K B F H σ (s.set i .emp) v (.own d) := by
  obtain ⟨a, h1, h2, h3, h4, h5, h6⟩ := en.ownAt hy
  refine ⟨.ref a, h1, en.putEmp hy rfl, a, rfl, h2, h3, h4, fun j x hx o => ?_, h6⟩
  rcases set_get hx with ⟨rfl, rfl, _⟩ | ⟨n, hx⟩
  · cases o
  · exact h5 j x n hx o
/-- a name's own thing is frozen where it stands -/
theorem EnvR.freezeAt (en : EnvR K B F H σ s) {i : Nat} {d : PV} (hy : s[i]? = some (.own d)) : ∃ v F', σ[i]? = some (some v) ∧ Sub F F' ∧ EnvR K B F' H σ (s.set i (.frz d)) ∧ Rp K F' v d := by
  obtain ⟨v, hv, e1, r1⟩ := en.move hy
  obtain ⟨F', s1, e2, r2⟩ := r1.good e1
  have r2 : Rp K F' v d := r2
  have hi : i < s.length := (List.getElem?_eq_some_iff.mp hy).1
  have e3 := e2.put (x := .frz d) (List.getElem?_set_self hi) rfl rfl (fun _ _ => rfl) ⟨v, hv, r2⟩ rfl
  rw [List.set_set] at e3
  exact ⟨v, F', hv, s1, e3, r2⟩
theorem EnvR.putOwn (en : EnvR K B F H σ s) {i : Nat} {y : Slot} {v : V} {d : PV} (hy : s[i]? = some y) (ny : isIo y = false) (r : RvR K B F H σ s v (.own d)) : EnvR K B F H (σ.set i (some v)) (s.set i (.own d)) := by
  obtain ⟨a, rfl, h1, h2, h3, h4, h5⟩ := r
  have hi := en.lt hy
  have ho : ∀ j, j ≠ i → (σ.set i (some (V.ref a)))[j]? = σ[j]? := fun j n => List.getElem?_set_ne (Ne.symm n)
  refine ⟨en.fh, by simp [en.len], fun j z h => ?_, fun j k z w b g1 g2 o1 o2 e1 e2 => ?_, en.tmp, fun p hp j z h o => ?_, en.tmpN, fun p hp => ?_, en.keep, en.fnew, en.fold⟩
  · rcases set_get h with ⟨rfl, rfl, _⟩ | ⟨ne, h⟩
    · exact ⟨a, List.getElem?_set_self hi, h1, h2, h3⟩
    · exact (en.slot j z h).other (ho j ne)
  · rcases set_get g1 with ⟨q1, rfl, _⟩ | ⟨n1, k1⟩
    · rcases set_get g2 with ⟨q2, rfl, _⟩ | ⟨n2, k2⟩
      · rw [q1, q2]
      · rw [ho _ n2] at e2
        rw [q1, List.getElem?_set_self hi] at e1
        cases e1
        exact (h4 k w k2 o2 e2).elim
    · rcases set_get g2 with ⟨q2, rfl, _⟩ | ⟨n2, k2⟩
      · rw [ho _ n1] at e1
        rw [q2, List.getElem?_set_self hi] at e2
        cases e2
        exact (h4 j z k1 o1 e1).elim
      · rw [ho _ n1] at e1; rw [ho _ n2] at e2
        exact en.apart j k z w b k1 k2 o1 o2 e1 e2
  · rcases set_get h with ⟨rfl, rfl, _⟩ | ⟨n1, g1⟩
    · rw [List.getElem?_set_self hi]
      intro z
      cases z
      exact h5 p hp rfl
    · rw [ho _ n1]; exact en.tmpA p hp j z g1 o
  · obtain ⟨d, g1, g2⟩ := en.lent p hp
    have hne : p.1 ≠ i := fun z => by rw [z, hy] at g1; cases g1; cases ny
    exact ⟨d, by rw [List.getElem?_set_ne (Ne.symm hne)]; exact g1, by rw [ho _ hne]; exact g2⟩
/-- a result stored -/
theorem store_inv {i : Nat} {r : Rv} {s' : Env} (h : store i r s = .ok () s') : ∃ y, s[i]? = some y ∧ isIo y = false ∧ ((∃ d, r = .frz d ∧ s' = s.set i (.frz d)) ∨ ∃ d, r = .own d ∧ s' = s.set i (.own d)) := by
  unfold store at h
  split at h
  · cases h
  · cases h
  · rename_i y d hn hs
    injection h with _ h
    refine ⟨y, hs, ?_, .inl ⟨d, rfl, h.symm⟩⟩
    cases y <;> first | rfl | exact (hn _ rfl).elim
  · rename_i y d hn hs
    injection h with _ h
    refine ⟨y, hs, ?_, .inr ⟨d, rfl, h.symm⟩⟩
    cases y <;> first | rfl | exact (hn _ rfl).elim
  · cases h
theorem store_env (en : EnvR K B F H σ s) {i : Nat} {r : Rv} {v : V} {s' : Env} (h : store i r s = .ok () s') (hr : RvR K B F H σ s v r) : EnvR K B F H (σ.set i (some v)) s' := by
  obtain ⟨y, hy, ny, ⟨d, rfl, rfl⟩ | ⟨d, rfl, rfl⟩⟩ := store_inv h
  · exact en.putFrz hy ny hr
  · exact en.putOwn hy ny hr
end
end Ev

/-! Ev10: expressions, each by its parts. -/
namespace Ev
open PySem PySem.Spec L2
def SE (p : Prg) (n : Nat) (S : Sx) (e : E) : Prop := ∀ (X : Cx) (x : Expr), XC p n S X → chk S X.env.scope e x = true → PE X x (tU X.K (p.cf n) e)
def ST (p : Prg) (n : Nat) (S : Sx) (e : E) : Prop := ∀ (X : Cx) (x : Expr), XC p n S X → chk S X.env.scope e x = true → PT X x (tUT X.K (p.cf n) e)
def SEs (p : Prg) (n : Nat) (S : Sx) (es : List E) : Prop := ∀ (X : Cx) (xs : List Expr), XC p n S X → chks S X.env.scope es xs = true → xs.all notStar = true → PA X xs (tUs X.K (p.cf n) es)
def SEA (p : Prg) (n : Nat) (S : Sx) (es : List E) : Prop := ∀ (X : Cx) (xs : List Expr), XC p n S X → chkA S X.env.scope es xs = true → PA X xs (tUA X.K (p.cf n) es)
section
variable {p : Prg} {n : Nat} {S : Sx} {K : Frag} {c : Cf}
/-! ### leaves -/
theorem leaf {e : E} {d : PV} {v : V} {σ : L2.St} {H : Hp} {Q : VK} (h : tU K c e σ H Q) (he : ∀ s, ev c e s = .ok (.frz d) s) (r : ∀ F : Hp, Rp K F v d) : Q v H := by
  obtain ⟨B, s, r0, s', h1, F, en, k⟩ := h
  rw [he] at h1
  cases h1
  exact k v H F (Sub.refl F) en (r F)
theorem se_cint {i : Int} : SE p n S (.cint i) := fun X x c h => by
  simp only [chk] at h
  split at h
  · rw [decide_eq_true_eq] at h
    subst h
    exact PE.imp pe_int fun σ H Q q => leaf q (fun s => rfl) fun F => .int i
  · cases h
theorem se_cbl {b : Bool} : SE p n S (.cbl b) := fun X x c h => by
  simp only [chk] at h
  split at h
  · rw [beq_iff_eq] at h
    subst h
    exact PE.imp pe_bl fun σ H Q q => leaf q (fun s => rfl) fun F => .bl _
  · cases h
theorem se_cnon : SE p n S .cnon := fun X x c h => by
  simp only [chk] at h
  split at h
  · exact PE.imp pe_non fun σ H Q q => leaf q (fun s => rfl) fun F => .non
  · cases h
theorem se_cstr {z : Str} : SE p n S (.cstr z) := fun X x c h => by
  simp only [chk] at h
  split at h
  · rw [decide_eq_true_eq] at h
    subst h
    exact PE.imp pe_str fun σ H Q q => leaf q (fun s => rfl) fun F => .str _
  · cases h
theorem name_pe {X : Cx} {i : Nat} {x : Expr} (c : XC p n S X) (h : chk S X.env.scope (.var i) x = true) : PE X x (tVar i) := by
  simp only [chk] at h
  split at h
  · simp only [nameB, Bool.and_eq_true, decide_eq_true_eq] at h
    obtain ⟨⟨h1, h2⟩, h3⟩ := h
    obtain ⟨h4, h5⟩ := plainName_ok h3
    exact pe_var (by rw [c.hN]; exact h1) (visB_ok h2) h4 h5
  · cases h
theorem se_var {i : Nat} : SE p n S (.var i) := fun X x c h => by
  refine PE.imp (name_pe c h) fun σ H Q q => ?_
  obtain ⟨B, s, r0, s', h1, F, en, k⟩ := q
  have h1 : mVar i s = .ok r0 s' := h1
  unfold mVar at h1
  split at h1
  · rename_i d hs
    cases h1
    obtain ⟨v, hv, r⟩ := en.slot i _ hs
    exact ⟨v, hv, k v H F (Sub.refl F) en r⟩
  · rename_i d hs
    cases h1
    obtain ⟨v, F', hv, s1, e1, r1⟩ := en.freezeAt hs
    exact ⟨v, hv, k v H F' s1 e1 r1⟩
  · cases h1
theorem se_mv {i : Nat} : SE p n S (.mv i) := fun X x c h => by
  have h' : chk S X.env.scope (.var i) x = true := by simp only [chk] at h ⊢; exact h
  refine PE.imp (name_pe c h') fun σ H Q q => ?_
  obtain ⟨B, s, r0, s', h1, F, en, k⟩ := q
  have h1 : mMv i s = .ok r0 s' := h1
  unfold mMv at h1
  split at h1
  · rename_i d hs
    cases h1
    obtain ⟨v, hv, r⟩ := en.slot i _ hs
    exact ⟨v, hv, k v H F (Sub.refl F) en r⟩
  · rename_i d hs
    cases h1
    obtain ⟨v, hv, e1, r1⟩ := en.move hs
    exact ⟨v, hv, k v H F (Sub.refl F) e1 r1⟩
  · cases h1
theorem se_peek {i : Nat} : SE p n S (.peek i) := fun X x c h => by
  have h' : chk S X.env.scope (.var i) x = true := by simp only [chk] at h ⊢; exact h
  refine PE.imp (name_pe c h') fun σ H Q q => ?_
  obtain ⟨B, s, r0, s', h1, F, en, k⟩ := q
  have h1 : mPeek i s = .ok r0 s' := h1
  unfold mPeek at h1
  split at h1
  · rename_i d hs
    cases h1
    obtain ⟨v, hv, r⟩ := en.slot i _ hs
    exact ⟨v, hv, k v H F (Sub.refl F) en r⟩
  · rename_i d hs
    cases h1
    obtain ⟨a, hv, _⟩ := en.slot i _ hs
    exact ⟨_, hv, k _ H F (Sub.refl F) en hv⟩
  · rename_i d hs
    cases h1
    obtain ⟨a, hv, _⟩ := en.slot i _ hs
    exact ⟨_, hv, k _ H F (Sub.refl F) en hv⟩
  · cases h1
theorem se_glb {g : Nat} : SE p n S (.glb g) := fun X x c h => by
  simp only [chk] at h
  split at h
  case h_2 => cases h
  rename_i y pos
  simp only [Bool.and_eq_true, decide_eq_true_eq] at h
  obtain ⟨⟨h1, h2⟩, h3⟩ := h
  obtain ⟨h4, h5⟩ := plainName_ok h3
  cases hd : p.G[g]? with
  | none =>
    refine ⟨fun pins s σ H Q I q => ?_⟩
    obtain ⟨B, s, r0, s', h1, F, en, k⟩ := q
    have h1 : M.opt ((p.G[g]?).map Rv.frz) s = .ok r0 s' := h1
    rw [hd] at h1
    cases h1
  | some d =>
    obtain ⟨v, u, hm, hr, hp⟩ := c.gs g y d h1 hd
    refine PE.imp (pe_glob (gloB_ok rfl h2) hm hr h4) fun σ H Q q => leaf (d := d) q (fun s => ?_) hp
    show M.opt ((p.G[g]?).map Rv.frz) s = _
    rw [hd]
    rfl
/-! ### two parts -/
/-- a, then b; both for good, then what follows -/
theorem two {a b : E} {s s2 : Env} {r1 r2 : Rv} {s1 : Env} {B : Bs} {F H : Hp} {σ : L2.St} {R : V → V → Hp → Prop} (h1 : ev c a s = .ok r1 s1) (h2 : ev c b s1 = .ok r2 s2) (en : EnvR K B F H σ s)
    (k : ∀ x y H' F', Sub F F' → EnvR K B F' H' σ s2 → RvF K F' σ x r1 → RvF K F' σ y r2 → R x y H') : tU K c a σ H fun x H1 => tU K c b σ H1 fun y H2 => R x y H2 :=
  tU_good h1 en fun x H1 F1 q1 e1 g1 => tU_good h2 e1 fun y H2 F2 q2 e2 g2 => k x y H2 F2 (q1.trans q2) e2 (g1.sub q2) g2
/-- the end of an operation: what is wanted of its result -/
theorem want_of {B : Bs} {F F' H' : Hp} {σ : L2.St} {s : Env} {r : Rv} {Q : VK} (q1 : Sub F F') (e1 : EnvR K B F' H' σ s) (k : ∀ v H' F', Sub F F' → EnvR K B F' H' σ s → RvR K B F' H' σ s v r → Q v H') : Want K F' H' r Q :=
  fun z H2 F2 g rr => k z H2 F2 (q1.trans g.ff) (e1.grow g) (rr.rv e1 g)
theorem se_bin {op : Operator} {a b : E} (ha : SE p n S a) (hb : SE p n S b) : SE p n S (.bin op a b) := fun X x c h => by
  simp only [chk] at h
  split at h
  case h_2 => cases h
  rename_i l o r pos
  simp only [Bool.and_eq_true, decide_eq_true_eq] at h
  obtain ⟨⟨rfl, h1⟩, h2⟩ := h
  have rule : OpR X (binaryOp o) fun x y H Q => ∃ u v r, binOp o u v = some r ∧ ∃ F, Sub F H ∧ RpT X.K F H x u ∧ RpT X.K F H y v ∧ Want X.K F H r Q :=
    fun pins s σ H x y v u Q I rx ry ⟨d, e, r, hb, q⟩ => bin_ok hb pins s σ H x y v u Q I rx ry q
  refine PE.imp (pe_op rule (ha X _ c h1) (hb X _ c h2)) fun σ H Q q => ?_
  obtain ⟨B, s, r0, s', hv, F, en, k⟩ := q
  obtain ⟨r1, s1, g1, hv1⟩ := bind_inv hv
  obtain ⟨r2, s2, g2, hv2⟩ := bind_inv hv1
  obtain ⟨u, s3, g3, hv3⟩ := bind_inv hv2
  obtain ⟨v, s4, g4, hv4⟩ := bind_inv hv3
  obtain ⟨g5, rfl⟩ := opt_inv hv4
  refine two (R := fun x y H2 => ∃ u v r, binOp o u v = some r ∧ ∃ F, Sub F H2 ∧ RpT X.K F H2 x u ∧ RpT X.K F H2 y v ∧ Want X.K F H2 r Q) g1 g2 en fun x y H' F' q1 e1 rx ry => ?_
  obtain ⟨rfl, tx⟩ := opd_ok e1 rx g3
  obtain ⟨rfl, ty⟩ := opd_ok e1 ry g4
  exact ⟨u, v, r0, g5, F', e1.fh, tx, ty, want_of q1 e1 k⟩
theorem cmp_rule {X : Cx} {op : CmpOp} (hu : X.A.units + 65 < cLine) : OpR X (compareOp op) fun x y H Q => ∃ u v b, cmpOp op u v = some b ∧ ∃ F, Sub F H ∧ RpT X.K F H x u ∧ RpT X.K F H y v ∧ Want X.K F H (.frz (.bool b)) Q :=
  fun pins s σ H x y v u Q I rx ry ⟨d, e, r, hb, q⟩ => cmp_ok hu hb pins s σ H x y v u Q I rx ry q
theorem se_cmp {op : CmpOp} {a b : E} (ha : SE p n S a) (hb : SE p n S b) : SE p n S (.cmp op a b) := fun X x c h => by
  simp only [chk] at h
  split at h
  · rename_i l o r pos
    simp only [Bool.and_eq_true, decide_eq_true_eq] at h
    obtain ⟨⟨⟨rfl, h1⟩, h2⟩, h3⟩ := h
    refine PE.imp (pe_cmpR (cmp_rule (by have := c.u; omega)) (ha X _ c h1) (hb X _ c h2) (notSet_marks h3)) fun σ H Q q => ?_
    obtain ⟨B, s, r0, s', hv, F, en, k⟩ := q
    obtain ⟨r1, s1, g1, hv1⟩ := bind_inv hv
    obtain ⟨r2, s2, g2, hv2⟩ := bind_inv hv1
    obtain ⟨u, s3, g3, hv3⟩ := bind_inv hv2
    obtain ⟨v, s4, g4, hv4⟩ := bind_inv hv3
    obtain ⟨d, s5, g5, hv5⟩ := bind_inv hv4
    obtain ⟨w5, rfl⟩ := opt_inv g5
    obtain ⟨rfl, rfl⟩ := pure_inv hv5
    refine two (R := fun x y H2 => ∃ u v b, cmpOp o u v = some b ∧ ∃ F, Sub F H2 ∧ RpT X.K F H2 x u ∧ RpT X.K F H2 y v ∧ Want X.K F H2 (.frz (.bool b)) Q) g1 g2 en fun x y H' F' q1 e1 rx ry => ?_
    obtain ⟨rfl, tx⟩ := opd_ok e1 rx g3
    obtain ⟨rfl, ty⟩ := opd_ok e1 ry g4
    exact ⟨u, v, d, w5, F', e1.fh, tx, ty, want_of q1 e1 k⟩
  · cases h
theorem se_idx {a b : E} (ha : SE p n S a) (hb : SE p n S b) : SE p n S (.idx a b) := fun X x c h => by
  simp only [chk] at h
  split at h
  case h_2 => cases h
  rename_i o k0 pos
  simp only [Bool.and_eq_true, decide_eq_true_eq] at h
  obtain ⟨⟨h1, h2⟩, h3⟩ := h
  have rule : IxR X fun x y H Q => ∃ u v r, idxOp u v = some r ∧ ∃ F, Sub F H ∧ RpT X.K F H x u ∧ RpT X.K F H y v ∧ Want X.K F H (.frz r) Q :=
    fun a b pins s σ H x y v u Q I rx ry ⟨d, e, r, hb, q⟩ => idx_ok hb a b pins s σ H x y v u Q I rx ry q
  refine PE.imp (pe_ix rule (ha X _ c h1) (hb X _ c h2) (notSlice_ix h3)) fun σ H Q q => ?_
  obtain ⟨B, s, r0, s', hv, F, en, k⟩ := q
  obtain ⟨r1, s1, g1, hv1⟩ := bind_inv hv
  obtain ⟨r2, s2, g2, hv2⟩ := bind_inv hv1
  obtain ⟨u, s3, g3, hv3⟩ := bind_inv hv2
  obtain ⟨v, s4, g4, hv4⟩ := bind_inv hv3
  obtain ⟨d, s5, g5, hv5⟩ := bind_inv hv4
  obtain ⟨w5, rfl⟩ := opt_inv g5
  obtain ⟨rfl, rfl⟩ := pure_inv hv5
  refine two (R := fun x y H2 => ∃ u v r, idxOp u v = some r ∧ ∃ F, Sub F H2 ∧ RpT X.K F H2 x u ∧ RpT X.K F H2 y v ∧ Want X.K F H2 (.frz r) Q) g1 g2 en fun x y H' F' q1 e1 rx ry => ?_
  obtain ⟨rfl, tx⟩ := opd_ok e1 rx g3
  obtain ⟨rfl, ty⟩ := opd_ok e1 ry g4
  exact ⟨u, v, d, w5, F', e1.fh, tx, ty, want_of q1 e1 k⟩
/-! ### one part -/
theorem se_neg {a : E} (ha : SE p n S a) : SE p n S (.neg a) := fun X x c h => by
  simp only [chk] at h
  split at h
  case h_2 => cases h
  refine PE.imp (pe_un un_neg (ha X _ c h)) fun σ H Q q => ?_
  obtain ⟨B, s, r0, s', hv, F, en, k⟩ := q
  obtain ⟨r1, s1, g1, hv1⟩ := bind_inv hv
  obtain ⟨u, s3, g3, hv2⟩ := bind_inv hv1
  refine tU_good g1 en fun x H' F' q1 e1 rx => ?_
  obtain ⟨rfl, tx⟩ := opd_ok e1 rx g3
  split at hv2
  · rename_i i
    obtain ⟨rfl, rfl⟩ := pure_inv hv2
    exact ⟨i, tx.int, k _ H' F' q1 e1 (.int _)⟩
  · cases hv2
theorem se_not {a : E} (ha : SE p n S a) : SE p n S (.not a) := fun X x c h => by
  simp only [chk] at h
  split at h
  case h_2 => cases h
  refine PE.imp (pe_notT (ha X _ c h)) fun σ H Q q => ?_
  obtain ⟨B, s, r0, s', hv, F, en, k⟩ := q
  obtain ⟨r1, s1, g1, hv1⟩ := bind_inv hv
  obtain ⟨u, s3, g3, hv2⟩ := bind_inv hv1
  obtain ⟨b, s5, g5, hv3⟩ := bind_inv hv2
  obtain ⟨w5, rfl⟩ := opt_inv g5
  obtain ⟨rfl, rfl⟩ := pure_inv hv3
  refine tU_good g1 en fun x H' F' q1 e1 rx => ?_
  obtain ⟨rfl, tx⟩ := opd_ok e1 rx g3
  exact ⟨b, truV w5 e1.fh tx, k _ H' F' q1 e1 (.bl _)⟩
/-! ### tests -/
/-- a test of no form of its own -/
def plainTest : Expr → Bool
  | .UnaryOp .Not _ _ => false
  | .BoolOp .. => false
  | .IfExp .. => false
  | .Compare .. => false
  | _ => true
theorem plainTest_ok {x : Expr} {env : PySem.Env} (h : plainTest x = true) : ∀ whole, isTrue x env whole = (do let v ← whole; standAt x.pos; holding [v] (truthy v)) := by
  intro w
  cases x <;> first | rfl | (cases h; done) | skip
  rename_i o y pos
  cases o <;> first | rfl | cases h
/-- from a test's run: the value, then its truth -/
theorem st_of_se {e : E} (he : SE p n S e) (hp : ∀ (X : Cx) (x : Expr), chk S X.env.scope e x = true → plainTest x = true) : ST p n S e := fun X x c h => by
  refine PT.imp (pt_truth (he X x c h) (plainTest_ok (hp X x h))) fun σ H Q q => ?_
  obtain ⟨B, s, r, s', d, b, h1, h2, h3, F, en, k⟩ := q
  refine tU_good h1 en fun x H' F' q1 e1 rx => ?_
  obtain ⟨_, tx⟩ := opd_ok e1 rx h2
  exact ⟨b, truV h3 e1.fh tx, k H' F' q1 e1⟩
theorem tUT_good {e : E} {B : Bs} {s s' : Env} {r : Rv} {d : PV} {b : Bool} {F H : Hp} {σ : L2.St} {Q : Bool → Hp → Prop} (h : ev c e s = .ok r s') (h2 : opd r s' = .ok d s') (h3 : truth d = some b) (en : EnvR K B F H σ s)
    (k : ∀ H' F', Sub F F' → EnvR K B F' H' σ s' → Q b H') : tUT K c e σ H Q := ⟨B, s, r, s', d, b, h, h2, h3, F, en, k⟩
theorem opd_same {r : Rv} {s s' : Env} {d : PV} (h : opd r s = .ok d s') : s' = s := by
  cases r with
  | frz x => injection h with _ h; exact h.symm
  | own x => injection h with _ h; exact h.symm
  | slot i => exact (opt_inv h).2
theorem st_not {a : E} (ha : ST p n S a) : ST p n S (.not a) := fun X x c h => by
  simp only [chk] at h
  split at h
  case h_2 => cases h
  refine PT.imp (pt_not (ha X _ c h)) fun σ H Q q => ?_
  obtain ⟨B, s, r0, s', d, b, hv, h2, h3, F, en, k⟩ := q
  obtain ⟨r1, s1, g1, hv1⟩ := bind_inv hv
  obtain ⟨u, s3, g3, hv2⟩ := bind_inv hv1
  obtain ⟨b2, s5, g5, hv3⟩ := bind_inv hv2
  obtain ⟨w5, rfl⟩ := opt_inv g5
  obtain ⟨rfl, rfl⟩ := pure_inv hv3
  injection h2 with h2 _
  subst h2
  cases h3
  obtain rfl := opd_same g3
  exact tUT_good g1 g3 w5 en k
theorem st_cmp {op : CmpOp} {a b : E} (ha : SE p n S a) (hb : SE p n S b) : ST p n S (.cmp op a b) := fun X x c h => by
  have hs := se_cmp ha hb X x c h
  simp only [chk] at h
  split at h
  · rename_i l o r pos
    simp only [Bool.and_eq_true, decide_eq_true_eq] at h
    obtain ⟨⟨⟨rfl, h1⟩, h2⟩, h3⟩ := h
    refine PT.imp (pt_cmpR (cmp_rule (by have := c.u; omega)) (ha X _ c h1) (hb X _ c h2) (notSet_marks h3)) fun σ H Q q => ?_
    obtain ⟨B, s, r0, s', d0, b0, hv, h4, h5, F, en, k⟩ := q
    obtain ⟨r1, s1, g1, hv1⟩ := bind_inv hv
    obtain ⟨r2, s2, g2, hv2⟩ := bind_inv hv1
    obtain ⟨u, s3, g3, hv3⟩ := bind_inv hv2
    obtain ⟨v, s4, g4, hv4⟩ := bind_inv hv3
    obtain ⟨d, s5, g5, hv5⟩ := bind_inv hv4
    obtain ⟨w5, rfl⟩ := opt_inv g5
    obtain ⟨rfl, rfl⟩ := pure_inv hv5
    injection h4 with h4 _
    subst h4
    cases h5
    obtain rfl := opd_same g3
    obtain rfl := opd_same g4
    refine two (R := fun x y H2 => ∃ u v b, cmpOp o u v = some b ∧ ∃ F, Sub F H2 ∧ RpT X.K F H2 x u ∧ RpT X.K F H2 y v ∧ Want X.K F H2 (.frz (.bool b)) fun x H' => ∃ k, x = V.bl k ∧ Q k H') g1 g2 en fun x y H' F' q1 e1 rx ry => ?_
    obtain ⟨_, tx⟩ := opd_ok e1 rx g3
    obtain ⟨_, ty⟩ := opd_ok e1 ry g4
    exact ⟨u, v, b0, w5, F', e1.fh, tx, ty, fun z H2 F2 g rr => ⟨b0, (show RpT X.K F2 H2 z (.bool b0) from rr).bl, k H2 F2 (q1.trans g.ff) (e1.grow g)⟩⟩
  · cases h
end
end Ev

/-! Ev11: calls of the program's own defs. -/
namespace Ev
open PySem PySem.Spec L2
section
variable {K : Frag} {B : Bs} {F H F' H' : Hp} {σ : L2.St} {s : Env}
def LentR (σ : L2.St) (s : Env) : List Nat → List Addr → Prop := Paired fun i a => ∃ x, s[i]? = some x ∧ isOwn x = true ∧ σ[i]? = some (some (.ref a))
theorem passArgs_ok (en : EnvR K B F H σ s) {lent : List Nat} : ∀ {rs : List Rv} {vs : List V} {k : Nat} {pq : List PV × List Nat} {s' : Env}, RvFs K F σ vs rs → passArgs lent k rs s = .ok pq s' →
    s' = s ∧ ∃ as, ArgsR K F H lent k vs pq.1 as ∧ LentR σ s pq.2 as
  | [], _, k, pq, s', h, e => by
    cases h
    obtain ⟨rfl, rfl⟩ := pure_inv e
    exact ⟨rfl, [], .nil, .nil⟩
  | r :: rs, _, k, pq, s', .cons (v := v) (vs := vs) h t, e => by
    obtain ⟨p1, s1, e1, w1⟩ := bind_inv e
    obtain ⟨p2, s2, e2, w2⟩ := bind_inv w1
    obtain ⟨q1, q2⟩ := pure_inv w2
    subst q1 q2
    unfold passOne at e1
    split at e1
    · rename_i hc
      split at e1
      · rename_i i
        have own : ∀ (x : Slot) (d : PV), s[i]? = some x → (x = .own d ∨ x = .io d) → ∃ a, v = .ref a ∧ F a = none ∧ OwnR K F H a d ∧ isOwn x = true ∧ σ[i]? = some (some (.ref a)) := by
          intro x d hx ho
          have w := en.slot i x hx
          have hv : σ[i]? = some (some v) := h
          rcases ho with rfl | rfl
          · obtain ⟨a, w1, w2, w3, w4⟩ := w
            rw [hv] at w1; cases w1
            exact ⟨a, rfl, w2, w4, rfl, hv⟩
          · obtain ⟨a, w1, w2, w3, w4⟩ := w
            rw [hv] at w1; cases w1
            exact ⟨a, rfl, w3, w4, rfl, hv⟩
        split at e1
        · rename_i d hs
          cases e1
          obtain ⟨rfl, as, a1, a2⟩ := passArgs_ok en t e2
          obtain ⟨a, rfl, g1, g2, g3, g4⟩ := own _ d hs (.inl rfl)
          exact ⟨rfl, a :: as, .lent hc g1 g2 a1, .cons ⟨_, hs, g3, g4⟩ a2⟩
        · rename_i d hs
          cases e1
          obtain ⟨rfl, as, a1, a2⟩ := passArgs_ok en t e2
          obtain ⟨a, rfl, g1, g2, g3, g4⟩ := own _ d hs (.inr rfl)
          exact ⟨rfl, a :: as, .lent hc g1 g2 a1, .cons ⟨_, hs, g3, g4⟩ a2⟩
        · cases e1
      · cases e1
    · rename_i hc
      obtain ⟨d, s3, e3, w3⟩ := bind_inv e1
      obtain ⟨q3, q4⟩ := pure_inv w3
      subst q3 q4
      obtain ⟨q5, hd⟩ := fz_ok h e3
      have q5 := q5.symm
      subst q5
      obtain ⟨rfl, as, a1, a2⟩ := passArgs_ok en t e2
      exact ⟨rfl, as, .val (by simpa using hc) hd a1, a2⟩
def reSlot (x : Slot) (o : PV) : Slot := match x with
  | .own _ => .own o
  | .io _ => .io o
  | y => y
def GB (is : List Nat) : Prop := ∀ {os : List PV} {s s2 : Env}, is.Nodup → giveBack is os s = .ok () s2 →
    is.length = os.length ∧ s2.length = s.length ∧ (∀ j, j ∉ is → s2[j]? = s[j]?) ∧ ∀ (k i : Nat) (o : PV), is[k]? = some i → os[k]? = some o → ∃ x, s[i]? = some x ∧ isOwn x = true ∧ s2[i]? = some (reSlot x o)
theorem giveBack_nil : GB [] := fun {os s s2} _ h => by
  cases os with
  | nil =>
    obtain ⟨_, rfl⟩ := pure_inv (show (pure () : M Unit) s = _ from h)
    exact ⟨rfl, rfl, fun _ _ => rfl, fun k i o h1 => by simp at h1⟩
  | cons v vs => cases (show (M.stuck : M Unit) s = _ from h)
theorem giveBack_cons {i : Nat} {is : List Nat} (ih : GB is) : GB (i :: is) := fun {os s s2} nd h => by
  cases os with
  | nil => cases (show (M.stuck : M Unit) s = _ from h)
  | cons v vs =>
    have nd' := (List.nodup_cons.mp nd).2
    have hni := (List.nodup_cons.mp nd).1
    have key : ∀ x, s[i]? = some x → isOwn x = true → giveBack is vs (s.set i (reSlot x v)) = .ok () s2 → (i :: is).length = (v :: vs).length ∧ s2.length = s.length ∧ (∀ j, j ∉ i :: is → s2[j]? = s[j]?) ∧
        ∀ (k j : Nat) (o : PV), (i :: is)[k]? = some j → (v :: vs)[k]? = some o → ∃ x, s[j]? = some x ∧ isOwn x = true ∧ s2[j]? = some (reSlot x o) := by
      intro x hx hox hg
      obtain ⟨l1, l2, l3, l4⟩ := ih nd' hg
      have hi : i < s.length := (List.getElem?_eq_some_iff.mp hx).1
      refine ⟨by simp [l1], by rw [l2, List.length_set], fun j hj => ?_, fun k j o h1 h2 => ?_⟩
      · simp only [List.mem_cons, not_or] at hj
        rw [l3 j hj.2, List.getElem?_set_ne (Ne.symm hj.1)]
      · cases k with
        | zero =>
          simp only [List.getElem?_cons_zero, Option.some.injEq] at h1 h2
          subst h1 h2
          refine ⟨x, hx, hox, ?_⟩
          rw [l3 i hni, List.getElem?_set_self hi]
        | succ k =>
          simp only [List.getElem?_cons_succ] at h1 h2
          obtain ⟨y, y1, y2, y3⟩ := l4 k j o h1 h2
          have hne : i ≠ j := fun z => hni (z ▸ List.mem_of_getElem? h1)
          rw [List.getElem?_set_ne hne] at y1
          exact ⟨y, y1, y2, y3⟩
    have h : (match s[i]? with
      | some (.own _) => giveBack is vs (s.set i (.own v))
      | some (.io _) => giveBack is vs (s.set i (.io v))
      | _ => .stuck) = .ok () s2 := h
    split at h
    · rename_i d hs
      exact key _ hs rfl h
    · rename_i d hs
      exact key _ hs rfl h
    · cases h
theorem giveBack_spec : ∀ {is : List Nat}, GB is
  | [] => giveBack_nil
  | _ :: _ => giveBack_cons giveBack_spec
theorem LentR.get : ∀ {is : List Nat} {as : List Addr}, LentR σ s is as → ∀ {k i : Nat}, is[k]? = some i → ∃ a, as[k]? = some a ∧ ∃ x, s[i]? = some x ∧ isOwn x = true ∧ σ[i]? = some (some (.ref a))
  | _, _, .nil, _, _, h => by simp at h
  | _, _, .cons r t, 0, i, h => by simp at h; subst h; exact ⟨_, rfl, r⟩
  | _, _, .cons r t, k + 1, i, h => by
    obtain ⟨a, h1, h2⟩ := LentR.get t (k := k) (i := i) (by simpa using h)
    exact ⟨a, by simpa using h1, h2⟩
theorem LentR.getA : ∀ {is : List Nat} {as : List Addr}, LentR σ s is as → ∀ {a : Addr}, a ∈ as → ∃ (k i : Nat), is[k]? = some i ∧ as[k]? = some a ∧ ∃ x, s[i]? = some x ∧ isOwn x = true ∧ σ[i]? = some (some (.ref a))
  | _, _, .nil, _, h => by cases h
  | _, _, .cons r t, a, h => by
    rcases List.mem_cons.mp h with rfl | h
    · exact ⟨0, _, rfl, rfl, r⟩
    · obtain ⟨k, i, h1, h2, h3⟩ := LentR.getA t h
      exact ⟨k + 1, i, by simpa using h1, by simpa using h2, h3⟩
theorem LentR.nodup (en : EnvR K B F H σ s) : ∀ {is : List Nat} {as : List Addr}, LentR σ s is as → is.Nodup → as.Nodup
  | _, _, .nil, _ => List.nodup_nil
  | _, _, .cons (a := i) (b := a) r t, nd => by
    obtain ⟨n1, n2⟩ := List.nodup_cons.mp nd
    refine List.nodup_cons.mpr ⟨fun hm => ?_, LentR.nodup en t n2⟩
    obtain ⟨k, j, h1, _, y, h3, h4, h5⟩ := LentR.getA t hm
    obtain ⟨x, g1, g2, g3⟩ := r
    have : i = j := en.apart i j x y a g1 h3 g2 h4 g3 h5
    exact n1 (this ▸ List.mem_of_getElem? h1)
theorem outs_get {P : Addr → PV → Prop} : ∀ {as : List Addr} {os : List PV}, Paired P as os → ∀ {k : Nat} {a : Addr}, as[k]? = some a → ∃ o, os[k]? = some o ∧ P a o
  | _, _, .nil, _, _, h => by simp at h
  | _, _, .cons r t, 0, a, h => by simp at h; subst h; exact ⟨_, rfl, r⟩
  | _, _, .cons r t, k + 1, a, h => by
    obtain ⟨o, h1, h2⟩ := outs_get t (k := k) (a := a) (by simpa using h)
    exact ⟨o, by simpa using h1, h2⟩
theorem isOwn_re {x : Slot} {o : PV} : isOwn (reSlot x o) = isOwn x := by cases x <;> rfl
/-- behind a call -/
theorem EnvR.called (en : EnvR K B F H σ s) {is : List Nat} {as : List Addr} {os : List PV} {r : Rv} {v : V} {s2 : Env} (hl : LentR σ s is as) (nd : is.Nodup) (hg : giveBack is os s = .ok () s2) (po : Post K F H as os r v F' H') :
    EnvR K B F' H' σ s2 ∧ RvR K B F' H' σ s2 v r := by
  obtain ⟨g1, g2, g3, g4⟩ := giveBack_spec nd hg
  -- a slot behind the call comes from one ahead of it
  have back : ∀ (j : Nat) (y : Slot), s2[j]? = some y → (j ∉ is ∧ s[j]? = some y) ∨ ∃ (k : Nat) (x : Slot) (a : Addr) (o : PV), is[k]? = some j ∧ as[k]? = some a ∧ os[k]? = some o ∧ s[j]? = some x ∧ isOwn x = true ∧ y = reSlot x o ∧ σ[j]? = some (some (.ref a)) ∧ OwnR K F' H' a o := by
    intro j y hy
    by_cases hj : j ∈ is
    · obtain ⟨k, hk, e⟩ := List.getElem_of_mem hj
      have hk' : is[k]? = some j := by rw [List.getElem?_eq_getElem hk, e]
      obtain ⟨a, ha, x, hx, ho, hs⟩ := hl.get hk'
      obtain ⟨o, hos, how⟩ := outs_get po.outs ha
      obtain ⟨x', q1, q2, q3⟩ := g4 k j o hk' hos
      rw [hx] at q1; cases q1
      rw [hy] at q3
      exact .inr ⟨k, x, a, o, hk', ha, hos, hx, ho, Option.some.inj q3, hs, how⟩
    · exact .inl ⟨hj, by rw [← g3 j hj]; exact hy⟩
  have own : ∀ (j : Nat) (y : Slot), s2[j]? = some y → isOwn y = true → ∃ x, s[j]? = some x ∧ isOwn x = true := by
    intro j y hy ho
    rcases back j y hy with ⟨_, h⟩ | ⟨k, x, a, o, _, _, _, h, h2, _⟩
    · exact ⟨y, h, ho⟩
    · exact ⟨x, h, h2⟩
  -- an own thing that was not lent is as it was
  have stays : ∀ (j : Nat) (y : Slot) (a : Addr), j ∉ is → s[j]? = some y → isOwn y = true → σ[j]? = some (some (.ref a)) → a ∉ as := by
    intro j y a hj hy ho hs hm
    obtain ⟨k, i, h1, _, x, h3, h4, h5⟩ := hl.getA hm
    have : i = j := en.apart i j x y a h3 hy h4 ho h5 hs
    exact hj (this ▸ List.mem_of_getElem? h1)
  have fnone : ∀ {a : Addr} {o : HO}, F a = none → H a = some o → F' a = none := by
    intro a o h1 h2
    cases e : F' a with
    | none => rfl
    | some u =>
      rcases po.new a u e with h | h
      · rw [h1] at h; cases h
      · rw [h2] at h; cases h
  have nl : ∀ p ∈ B.T, p.1 ∉ as := by
    intro p hp hm
    obtain ⟨k, i, _, _, x, h3, h4, h5⟩ := hl.getA hm
    exact en.tmpA p hp i x h3 h4 h5
  have env : EnvR K B F' H' σ s2 := by
    refine ⟨po.fh, by rw [g2]; exact en.len, fun j y hy => ?_, fun i j x y a h1 h2 o1 o2 e1 e2 => ?_, fun p hp => ?_, fun p hp j y hy ho => ?_, en.tmpN, fun p hp => ?_, fun a o h nl => ?_, fun a o h => ?_, en.fold.trans po.ff⟩
    · rcases back j y hy with ⟨hj, h⟩ | ⟨k, x, a, o, q1, q2, q3, h, ho, rfl, hs, how⟩
      · have w := en.slot j y h
        cases y with
        | emp => trivial
        | frz d => obtain ⟨v, w1, w2⟩ := w; exact ⟨v, w1, Rp.sub po.ff w2⟩
        | own d =>
          obtain ⟨a, w1, w2, w3, w4⟩ := w
          obtain ⟨u, hu⟩ := w4.there
          exact ⟨a, w1, fnone w2 hu, w3, w4.stay po.ff fun u hu => po.keep _ _ hu (stays j _ a hj h rfl w1)⟩
        | io d =>
          obtain ⟨a, w1, w2, w3, w4⟩ := w
          obtain ⟨u, hu⟩ := w4.there
          exact ⟨a, w1, w2, fnone w3 hu, w4.stay po.ff fun u hu => po.keep _ _ hu (stays j _ a hj h rfl w1)⟩
      · have w := en.slot j x h
        cases x with
        | emp => cases ho
        | frz d => cases ho
        | own d =>
          obtain ⟨a', w1, w2, w3, w4⟩ := w
          rw [hs] at w1; cases w1
          obtain ⟨u, hu⟩ := w4.there
          exact ⟨a, hs, fnone w2 hu, w3, how⟩
        | io d =>
          obtain ⟨a', w1, w2, w3, w4⟩ := w
          rw [hs] at w1; cases w1
          obtain ⟨u, hu⟩ := w4.there
          exact ⟨a, hs, w2, fnone w3 hu, how⟩
    · obtain ⟨x', q1, q2⟩ := own i x h1 o1
      obtain ⟨y', q3, q4⟩ := own j y h2 o2
      exact en.apart i j x' y' a q1 q3 q2 q4 e1 e2
    · obtain ⟨h1, h2, h3⟩ := en.tmp p hp
      obtain ⟨u, hu⟩ := h3.there
      exact ⟨fnone h1 hu, h2, h3.stay po.ff fun u hu => po.keep _ _ hu (nl p hp)⟩
    · obtain ⟨x', q1, q2⟩ := own j y hy ho
      exact en.tmpA p hp j x' q1 q2
    · obtain ⟨d, h1, h2⟩ := en.lent p hp
      by_cases hj : p.1 ∈ is
      · obtain ⟨k, hk, e⟩ := List.getElem_of_mem hj
        have hk' : is[k]? = some p.1 := by rw [List.getElem?_eq_getElem hk, e]
        obtain ⟨a, ha, x, hx, ho, hs⟩ := hl.get hk'
        obtain ⟨o, hos, how⟩ := outs_get po.outs ha
        obtain ⟨x', q1, q2, q3⟩ := g4 k p.1 o hk' hos
        rw [h1] at q1; cases q1
        exact ⟨o, q3, h2⟩
      · exact ⟨d, by rw [g3 _ hj]; exact h1, h2⟩
    · refine po.keep a o (en.keep a o h nl) fun hm => ?_
      obtain ⟨k, i, _, _, x, h3, h4, h5⟩ := hl.getA hm
      have w := en.slot i x h3
      cases x with
      | emp => cases h4
      | frz d => cases h4
      | own d => obtain ⟨a', w1, w2, w3, w4⟩ := w; rw [h5] at w1; cases w1; rw [h] at w3; cases w3
      | io d => obtain ⟨a', w1, w2, w3, w4⟩ := w; rw [h5] at w1; cases w1; exact nl _ w2 rfl
    · rcases po.new a o h with h | h
      · exact en.fnew a o h
      · exact .inr (en.free0 h)
  refine ⟨env, ?_⟩
  cases r with
  | frz d => exact po.res
  | slot i => exact po.res.elim
  | own d =>
    obtain ⟨a, rfl, h1, h2, h3⟩ := po.res
    refine ⟨a, rfl, h2, en.free0 h1, h3, fun j y hy ho z => ?_, fun p hp z => ?_⟩
    · obtain ⟨x, q1, q2⟩ := own j y hy ho
      have w := en.slot j x q1
      cases x with
      | emp => cases q2
      | frz d => cases q2
      | own d => obtain ⟨b, w1, _, _, w4⟩ := w; rw [z] at w1; cases w1; obtain ⟨o, ho⟩ := w4.there; rw [h1] at ho; cases ho
      | io d => obtain ⟨b, w1, _, _, w4⟩ := w; rw [z] at w1; cases w1; obtain ⟨o, ho⟩ := w4.there; rw [h1] at ho; cases ho
    · obtain ⟨_, _, w⟩ := en.tmp p hp
      obtain ⟨o, ho⟩ := w.there
      rw [z, h1] at ho; cases ho
end
end Ev

/-! Ev12: the other expressions. -/
namespace Ev
open PySem PySem.Spec L2
section
variable {p : Prg} {n : Nat} {S : Sx} {K : Frag} {c : Cf}
/-! ### argument lists -/
theorem ses_nil : SEs p n S [] := fun X xs c h _ => by
  simp only [chks] at h
  split at h
  · refine PA.imp pa_nil fun σ H Q q => ?_
    obtain ⟨B, s, rs, s', hv, F, en, k⟩ := q
    obtain ⟨rfl, rfl⟩ := pure_inv hv
    exact k [] H F (Sub.refl F) en .nil
  · cases h
theorem ses_cons {e : E} {es : List E} (he : SE p n S e) (hs : SEs p n S es) : SEs p n S (e :: es) := fun X xs c h hn => by
  simp only [chks] at h
  split at h
  · rename_i y ys
    simp only [Bool.and_eq_true] at h
    rw [List.all_cons, Bool.and_eq_true] at hn
    refine PA.imp (pa_cons (he X _ c h.1) (hs X _ c h.2 hn.2) (star_cons hn.1)) fun σ H Q q => ?_
    obtain ⟨B, s, rs, s', hv, F, en, k⟩ := q
    obtain ⟨r1, s1, g1, w1⟩ := bind_inv hv
    obtain ⟨rs1, s2, g2, w2⟩ := bind_inv w1
    obtain ⟨rfl, rfl⟩ := pure_inv w2
    refine tU_good g1 en fun v H1 F1 q1 e1 rv => ⟨B, s1, rs1, _, g2, F1, e1, fun vs H2 F2 q2 e2 rvs => ?_⟩
    exact k (v :: vs) H2 F2 (q1.trans q2) e2 (.cons (rv.sub q2) rvs)
  · cases h
theorem opds_ok {B : Bs} {F H : Hp} {σ : L2.St} {s : Env} (en : EnvR K B F H σ s) : ∀ {vs : List V} {rs : List Rv} {ds : List PV} {s' : Env}, RvFs K F σ vs rs → opds rs s = .ok ds s' → s' = s ∧ RTs K F H vs ds
  | _, _, ds, s', .nil, h => by
    obtain ⟨rfl, rfl⟩ := pure_inv h
    exact ⟨rfl, .nil⟩
  | _, _, ds, s', .cons r t, h => by
    obtain ⟨d, s1, g1, w1⟩ := bind_inv h
    obtain ⟨ds1, s2, g2, w2⟩ := bind_inv w1
    obtain ⟨q1, q2⟩ := pure_inv w2
    obtain ⟨e1, td⟩ := opd_ok en r g1
    have e1 := e1.symm
    subst e1
    obtain ⟨e2, ts⟩ := opds_ok en t g2
    subst q1
    exact ⟨q2.trans e2, .cons td ts⟩
theorem fzs_ok {F : Hp} {σ : L2.St} {s : Env} : ∀ {vs : List V} {rs : List Rv} {ds : List PV} {s' : Env}, RvFs K F σ vs rs → fzs rs s = .ok ds s' → s' = s ∧ RpAll K F vs ds
  | _, _, ds, s', .nil, h => by
    obtain ⟨rfl, rfl⟩ := pure_inv h
    exact ⟨rfl, .nil⟩
  | _, _, ds, s', .cons r t, h => by
    obtain ⟨d, s1, g1, w1⟩ := bind_inv h
    obtain ⟨ds1, s2, g2, w2⟩ := bind_inv w1
    obtain ⟨q1, q2⟩ := pure_inv w2
    obtain ⟨e1, td⟩ := fz_ok r g1
    have e1 := e1.symm
    subst e1
    obtain ⟨e2, ts⟩ := fzs_ok t g2
    subst q1
    exact ⟨q2.trans e2, .cons td ts⟩
theorem RTs.top {F H : Hp} (s : Sub F H) : ∀ {vs : List V} {ds : List PV}, RpAll K F vs ds → RTs K F H vs ds
  | _, _, .nil => .nil
  | _, _, .cons h t => .cons (Rp.top s h) (RTs.top s t)
/-! ### displays -/
theorem sea_nil : SEA p n S [] := fun X xs c h => by
  simp only [chkA] at h
  split at h
  · refine PA.imp pa_nil fun σ H Q q => ?_
    obtain ⟨B, s, rs, s', hv, F, en, k⟩ := q
    obtain ⟨rfl, rfl⟩ := pure_inv hv
    exact k [] H F (Sub.refl F) en .nil
  · cases h
def isStar : E → Bool
  | .star _ => true
  | _ => false
theorem evA_plain {e : E} {es : List E} (h : isStar e = false) : evA c (e :: es) = (do let r ← ev c e; let v ← fz r; let rs ← evA c es; pure (.frz v :: rs)) := by
  cases e <;> first | rfl | cases h
theorem chkA_plain {sc : Scope} {e : E} {es : List E} {xs : List Expr} (h : isStar e = false) (hc : chkA S sc (e :: es) xs = true) : ∃ y ys, xs = y :: ys ∧ notStar y = true ∧ chk S sc e y = true ∧ chkA S sc es ys = true := by
  cases xs with
  | nil => cases e <;> first | (simp [chkA] at hc; done) | cases h
  | cons y ys =>
    refine ⟨y, ys, rfl, ?_⟩
    cases e <;> first | (simp only [chkA, Bool.and_eq_true] at hc; exact ⟨hc.1.1, hc.1.2, hc.2⟩) | cases h
theorem sea_plain {e : E} {es : List E} (ns : isStar e = false) (he : SE p n S e) (hs : SEA p n S es) : SEA p n S (e :: es) := fun X xs c h => by
  obtain ⟨y, ys, rfl, h1, h2, h3⟩ := chkA_plain ns h
  refine PA.imp (pa_cons (he X _ c h2) (hs X _ c h3) (star_cons h1)) fun σ H Q q => ?_
  obtain ⟨B, s, rs, s', hv, F, en, k⟩ := q
  rw [evA_plain ns] at hv
  obtain ⟨r1, s1, g1, w1⟩ := bind_inv hv
  obtain ⟨d, s3, g3, w3⟩ := bind_inv w1
  obtain ⟨rs1, s2, g2, w2⟩ := bind_inv w3
  obtain ⟨rfl, rfl⟩ := pure_inv w2
  refine tU_good g1 en fun v H1 F1 q1 e1 rv => ?_
  obtain ⟨rfl, rd⟩ := fz_ok rv g3
  exact ⟨B, _, rs1, _, g2, F1, e1, fun vs H2 F2 q2 e2 rvs => k (v :: vs) H2 F2 (q1.trans q2) e2 (.cons (Rp.sub q2 rd) rvs)⟩
theorem sea_star {e : E} {es : List E} (he : SE p n S e) (hs : SEA p n S es) : SEA p n S (.star e :: es) := fun X xs c h => by
  simp only [chkA] at h
  split at h
  · simp only [Bool.and_eq_true] at h
    refine PA.imp (StX.pa_star (he X _ c h.1) (hs X _ c h.2)) fun σ H Q q => ?_
    obtain ⟨B, s, rs, s', hv, F, en, k⟩ := q
    have hv : (do let r ← ev (p.cf n) e; let u ← opd r; let xs ← M.opt (seq? u); let rs ← evA (p.cf n) es; pure (xs.map Rv.frz ++ rs) : M (List Rv)) s = .ok rs s' := hv
    obtain ⟨r1, s1, g1, w1⟩ := bind_inv hv
    obtain ⟨u, s3, g3, w3⟩ := bind_inv w1
    obtain ⟨ds, s4, g4, w4⟩ := bind_inv w3
    obtain ⟨g4', rfl⟩ := opt_inv g4
    obtain ⟨rs1, s2, g2, w2⟩ := bind_inv w4
    obtain ⟨rfl, rfl⟩ := pure_inv w2
    refine tU_good g1 en fun v H1 F1 q1 e1 rv => ?_
    obtain ⟨e3, tu⟩ := opd_ok e1 rv g3
    subst e3
    cases u with
    | list es' =>
      cases g4'
      obtain ⟨a, vs, rfl, ha, ra⟩ := tu.lst
      exact ⟨a, vs, rfl, .inr (.inl ha), B, _, rs1, _, g2, F1, e1, fun ws H2 F2 q2 e2 rvs => k (vs ++ ws) H2 F2 (q1.trans q2) e2 ((RvFs.ofAll (RpAll.sub q2 ra)).append rvs)⟩
    | tuple es' =>
      cases g4'
      obtain ⟨a, vs, rfl, ha, ra⟩ := tu.tup
      exact ⟨a, vs, rfl, .inl (SqT.sub e1.fh ha), B, _, rs1, _, g2, F1, e1, fun ws H2 F2 q2 e2 rvs => k (vs ++ ws) H2 F2 (q1.trans q2) e2 ((RvFs.ofAll (RpAll.sub q2 ra)).append rvs)⟩
    | _ => cases g4'
  · cases h
theorem se_tup {es : List E} (hs : SEA p n S es) : SE p n S (.tup es) := fun X x c h => by
  simp only [chk] at h
  split at h
  case h_2 => cases h
  refine PE.imp (pe_tup (hs X _ c h)) fun σ H Q q => ?_
  obtain ⟨B, s, r0, s', hv, F, en, k⟩ := q
  obtain ⟨rs, s1, g1, w1⟩ := bind_inv hv
  obtain ⟨ds, s2, g2, w2⟩ := bind_inv w1
  refine ⟨B, s, rs, s1, g1, F, en, fun vs H1 F1 q1 e1 rv => ?_⟩
  obtain ⟨rfl, ra⟩ := fzs_ok rv g2
  split at w2
  · rename_i hz
    obtain ⟨rfl, rfl⟩ := pure_inv w2
    exact ⟨by rw [ra.length, ← lim_eq]; exact hz, (want_of q1 e1 k).tup e1.fh ra⟩
  · cases w2
theorem se_lst {es : List E} (hs : SEA p n S es) : SE p n S (.lst es) := fun X x c h => by
  simp only [chk] at h
  split at h
  case h_2 => cases h
  refine PE.imp (pe_lst (hs X _ c h)) fun σ H Q q => ?_
  obtain ⟨B, s, r0, s', hv, F, en, k⟩ := q
  obtain ⟨rs, s1, g1, w1⟩ := bind_inv hv
  obtain ⟨ds, s2, g2, w2⟩ := bind_inv w1
  refine ⟨B, s, rs, s1, g1, F, en, fun vs H1 F1 q1 e1 rv => ?_⟩
  obtain ⟨rfl, ra⟩ := fzs_ok rv g2
  split at w2
  · rename_i hz
    obtain ⟨rfl, rfl⟩ := pure_inv w2
    exact ⟨by rw [ra.length, ← lim_eq]; exact hz, (want_of q1 e1 k).lst e1.fh ra⟩
  · cases w2
theorem se_dct0 : SE p n S .dct0 := fun X x c h => by
  simp only [chk] at h
  split at h
  case h_2 => cases h
  refine PE.imp pe_dnewK fun σ H Q q => ?_
  obtain ⟨B, s, r0, s', hv, F, en, k⟩ := q
  obtain ⟨rfl, rfl⟩ := pure_inv hv
  intro d hd
  have w : Want X.K F H (.own (.dict [])) Q := want_of (Sub.refl F) en k
  exact w _ _ F (Grow.own en.fh hd) ⟨d, rfl, hd, en.fh.none hd, [], upd_same, .nil⟩
/-! ### slices -/
theorem sl_rule {X : Cx} : SlR X fun x l h H Q => ∃ u r, slcOp l h u = some r ∧ ∃ F, Sub F H ∧ RpT X.K F H x u ∧ Want X.K F H r Q :=
  fun pins s σ H x v vl vu lo hi sl Q I a b c d ⟨u, r, hs, q⟩ => slc_ok hs pins s σ H x v vl vu lo hi sl Q I a b c d ⟨rfl, rfl, q⟩
theorem fz_int {F : Hp} {σ : L2.St} {r : Rv} {s s' : Env} {i : Int} {y : V} (h : RvF K F σ y r) (g : fz r s = .ok (.int i) s') : y = .int i := by
  obtain ⟨_, q⟩ := fz_ok h g
  cases q; rfl
theorem fz_same {r : Rv} {s s' : Env} {d : PV} (h : fz r s = .ok d s') : s' = s := by
  cases r with
  | frz x => injection h with _ h; exact h.symm
  | own x => injection h with _ h; exact h.symm
  | slot i => cases h
theorem se_slcL {a lo : E} (ha : SE p n S a) (hl : SE p n S lo) : SE p n S (.slcL a lo) := fun X x c h => by
  simp only [chk] at h
  split at h
  case h_2 => cases h
  rw [Bool.and_eq_true] at h
  refine PE.imp (pe_slice sl_rule (ha X _ c h.1) (po_some (hl X _ c h.2)) po_none) fun σ H Q q => ?_
  obtain ⟨B, s, r0, s', hv, F, en, k⟩ := q
  obtain ⟨r1, s1, g1, w1⟩ := bind_inv hv
  obtain ⟨r2, s2, g2, w2⟩ := bind_inv w1
  obtain ⟨u, s3, g3, w3⟩ := bind_inv w2
  obtain ⟨v, s4, g4, w4⟩ := bind_inv w3
  refine two (R := fun x y H2 => ∃ i, y = .int i ∧ ∃ u r, slcOp (some i) none u = some r ∧ ∃ F, Sub F H2 ∧ RpT X.K F H2 x u ∧ Want X.K F H2 r Q) g1 g2 en fun x y H' F' q1 e1 rx ry => ?_
  obtain ⟨rfl, tx⟩ := opd_ok e1 rx g3
  split at w4
  · rename_i i
    have ty := fz_int ry g4
    obtain rfl := fz_same g4
    obtain ⟨g5, rfl⟩ := opt_inv w4
    exact ⟨i, ty, u, r0, g5, F', e1.fh, tx, want_of q1 e1 k⟩
  · cases w4
theorem se_slcH {a hi : E} (ha : SE p n S a) (hh : SE p n S hi) : SE p n S (.slcH a hi) := fun X x c h => by
  simp only [chk] at h
  split at h
  case h_2 => cases h
  rw [Bool.and_eq_true] at h
  refine PE.imp (pe_slice sl_rule (ha X _ c h.1) po_none (po_some (hh X _ c h.2))) fun σ H Q q => ?_
  obtain ⟨B, s, r0, s', hv, F, en, k⟩ := q
  obtain ⟨r1, s1, g1, w1⟩ := bind_inv hv
  obtain ⟨r2, s2, g2, w2⟩ := bind_inv w1
  obtain ⟨u, s3, g3, w3⟩ := bind_inv w2
  obtain ⟨v, s4, g4, w4⟩ := bind_inv w3
  refine two (R := fun x y H2 => ∃ i, y = .int i ∧ ∃ u r, slcOp none (some i) u = some r ∧ ∃ F, Sub F H2 ∧ RpT X.K F H2 x u ∧ Want X.K F H2 r Q) g1 g2 en fun x y H' F' q1 e1 rx ry => ?_
  obtain ⟨rfl, tx⟩ := opd_ok e1 rx g3
  split at w4
  · rename_i i
    have ty := fz_int ry g4
    obtain rfl := fz_same g4
    obtain ⟨g5, rfl⟩ := opt_inv w4
    exact ⟨i, ty, u, r0, g5, F', e1.fh, tx, want_of q1 e1 k⟩
  · cases w4
theorem se_slcLH {a lo hi : E} (ha : SE p n S a) (hl : SE p n S lo) (hh : SE p n S hi) : SE p n S (.slcLH a lo hi) := fun X x c h => by
  simp only [chk] at h
  split at h
  case h_2 => cases h
  rw [Bool.and_eq_true, Bool.and_eq_true] at h
  refine PE.imp (pe_slice sl_rule (ha X _ c h.1.1) (po_some (hl X _ c h.1.2)) (po_some (hh X _ c h.2))) fun σ H Q q => ?_
  obtain ⟨B, s, r0, s', hv, F, en, k⟩ := q
  obtain ⟨r1, s1, g1, w1⟩ := bind_inv hv
  obtain ⟨r2, s2, g2, w2⟩ := bind_inv w1
  obtain ⟨r3, s3, g3, w3⟩ := bind_inv w2
  obtain ⟨u, s4, g4, w4⟩ := bind_inv w3
  obtain ⟨v, s5, g5, w5⟩ := bind_inv w4
  obtain ⟨w, s6, g6, w6⟩ := bind_inv w5
  refine tU_good g1 en fun x H1 F1 q1 e1 rx => tU_good g2 e1 fun y H2 F2 q2 e2 ry => ?_
  have rx2 := rx.sub q2
  split at w6
  · rename_i i j
    refine ⟨i, fz_int ry g5, tU_good g3 e2 fun z H3 F3 q3 e3 rz => ⟨j, fz_int rz g6, ?_⟩⟩
    obtain ⟨e4, tx⟩ := opd_ok e3 (rx2.sub q3) g4
    have e5 := fz_same g5
    have e6 := fz_same g6
    obtain ⟨g7, e7⟩ := opt_inv w6
    have es : s' = s3 := by rw [e7, e6, e5, e4]
    subst es
    exact ⟨u, r0, g7, F3, e3.fh, tx, want_of (q1.trans (q2.trans q3)) e3 k⟩
  · cases w6
/-! ### if, and, or -/
theorem se_ite {t a b : E} (ht : ST p n S t) (ha : SE p n S a) (hb : SE p n S b) : SE p n S (.ite t a b) := fun X x c h => by
  simp only [chk] at h
  split at h
  case h_2 => cases h
  rw [Bool.and_eq_true, Bool.and_eq_true] at h
  refine PE.imp (pe_ifExp (ht X _ c h.1.1) (ha X _ c h.1.2) (hb X _ c h.2)) fun σ H Q q => ?_
  obtain ⟨B, s, r0, s', hv, F, en, k⟩ := q
  obtain ⟨r1, s1, g1, w1⟩ := bind_inv hv
  obtain ⟨u, s2, g2, w2⟩ := bind_inv w1
  obtain ⟨d, s3, g3, w3⟩ := bind_inv w2
  obtain ⟨g3', rfl⟩ := opt_inv g3
  obtain rfl := opd_same g2
  refine tUT_good g1 g2 g3' en fun H1 F1 q1 e1 => ?_
  split
  · rename_i hd
    rw [hd, if_pos rfl] at w3
    exact ⟨B, _, r0, s', w3, F1, e1, fun v H2 F2 q2 e2 rv => k v H2 F2 (q1.trans q2) e2 rv⟩
  · rename_i hd
    rw [if_neg hd] at w3
    exact ⟨B, _, r0, s', w3, F1, e1, fun v H2 F2 q2 e2 rv => k v H2 F2 (q1.trans q2) e2 rv⟩
def tUB (K : Frag) (c : Cf) (op : BoolOp) (es : List E) : TE := fun σ H Q => ∃ B s r s', evB c op es s = .ok r s' ∧ ∃ F, EnvR K B F H σ s ∧ ∀ v H' F', Sub F F' → EnvR K B F' H' σ s' → RvR K B F' H' σ s' v r → Q v H'
theorem evB_cons {op : BoolOp} {e e2 : E} {es : List E} {s s' : Env} {r : Rv} (h : evB c op (e :: e2 :: es) s = .ok r s') : ∃ x s1 b, ev c e s = .ok x s1 ∧ opd x s1 = .ok (.bool b) s1 ∧
    ((op = .And ∧ b = false ∨ op = .Or ∧ b = true) ∧ r = .frz (.bool b) ∧ s' = s1 ∨ (op = .And ∧ b = true ∨ op = .Or ∧ b = false) ∧ evB c op (e2 :: es) s1 = .ok r s') := by
  obtain ⟨x, s1, g1, w1⟩ := bind_inv h
  obtain ⟨u, s2, g2, w2⟩ := bind_inv w1
  have e2' := opd_same g2
  subst e2'
  split at w2
  · obtain ⟨rfl, rfl⟩ := pure_inv w2
    exact ⟨x, _, _, g1, g2, .inl ⟨.inl ⟨rfl, rfl⟩, rfl, rfl⟩⟩
  · exact ⟨x, _, _, g1, g2, .inr ⟨.inl ⟨rfl, rfl⟩, w2⟩⟩
  · obtain ⟨rfl, rfl⟩ := pure_inv w2
    exact ⟨x, _, _, g1, g2, .inl ⟨.inr ⟨rfl, rfl⟩, rfl, rfl⟩⟩
  · exact ⟨x, _, _, g1, g2, .inr ⟨.inr ⟨rfl, rfl⟩, w2⟩⟩
  · cases w2
theorem seb {op : BoolOp} : ∀ {es : List E}, (∀ e ∈ es, SE p n S e) → ∀ (X : Cx) (xs : List Expr) (pos : Pos), XC p n S X → chks S X.env.scope es xs = true → es ≠ [] → PE X (.BoolOp op xs pos) (tUB X.K (p.cf n) op es)
  | [], _, _, _, _, _, _, h => (h rfl).elim
  | [e], he, X, xs, pos, c, h, _ => by
    simp only [chks] at h
    split at h
    · rename_i y ys
      rw [Bool.and_eq_true] at h
      obtain ⟨h1, h2⟩ := h
      split at h2
      · refine PE.imp (pe_one (he e (by simp) X _ c h1)) fun σ H Q q => ?_
        obtain ⟨B, s, r0, s', hv, F, en, k⟩ := q
        obtain ⟨r1, s1, g1, w1⟩ := bind_inv hv
        obtain ⟨u, s2, g2, w2⟩ := bind_inv w1
        obtain ⟨rfl, rfl⟩ := pure_inv w2
        refine tU_good g1 en fun v H1 F1 q1 e1 rv => ?_
        obtain ⟨rfl, rd⟩ := fz_ok rv g2
        exact k v H1 F1 q1 e1 rd
      · cases h2
    · cases h
  | e :: e2 :: es, he, X, xs, pos, c, h, _ => by
    simp only [chks] at h
    split at h
    · rename_i y ys
      rw [Bool.and_eq_true] at h
      obtain ⟨h1, h2⟩ := h
      split at h2
      · rename_i y2 ys2
        have rest : PE X (.BoolOp op (y2 :: ys2) pos) (tUB X.K (p.cf n) op (e2 :: es)) := seb (fun e' hm => he e' (List.mem_cons_of_mem _ hm)) X _ pos c (by simp only [chks]; exact h2) (by simp)
        have first := he e (by simp) X y c h1
        cases op with
        | And =>
          refine PE.imp (pe_and first rest) fun σ H Q q => ?_
          obtain ⟨B, s, r0, s', hv, F, en, k⟩ := q
          obtain ⟨x, s1, b, g1, g2, g3⟩ := evB_cons hv
          refine tU_good g1 en fun v H1 F1 q1 e1 rv => ⟨b, (opd_ok e1 rv g2).2.bl, ?_⟩
          rcases g3 with ⟨⟨_, rfl⟩ | ⟨z, _⟩, rfl, rfl⟩ | ⟨⟨_, rfl⟩ | ⟨z, _⟩, g4⟩
          · rw [if_neg Bool.false_ne_true]
            exact k _ H1 F1 q1 e1 (.bl _)
          · cases z
          · rw [if_pos rfl]
            exact ⟨B, s1, r0, s', g4, F1, e1, fun v H2 F2 q2 e2 rv => k v H2 F2 (q1.trans q2) e2 rv⟩
          · cases z
        | Or =>
          refine PE.imp (pe_or first rest) fun σ H Q q => ?_
          obtain ⟨B, s, r0, s', hv, F, en, k⟩ := q
          obtain ⟨x, s1, b, g1, g2, g3⟩ := evB_cons hv
          refine tU_good g1 en fun v H1 F1 q1 e1 rv => ⟨b, (opd_ok e1 rv g2).2.bl, ?_⟩
          rcases g3 with ⟨⟨z, _⟩ | ⟨_, rfl⟩, rfl, rfl⟩ | ⟨⟨z, _⟩ | ⟨_, rfl⟩, g4⟩
          · cases z
          · rw [if_pos rfl]
            exact k _ H1 F1 q1 e1 (.bl _)
          · cases z
          · rw [if_neg Bool.false_ne_true]
            exact ⟨B, s1, r0, s', g4, F1, e1, fun v H2 F2 q2 e2 rv => k v H2 F2 (q1.trans q2) e2 rv⟩
      · cases h2
    · cases h
theorem se_bop {op : BoolOp} {es : List E} (he : ∀ e ∈ es, SE p n S e) : SE p n S (.bop op es) := fun X x c h => by
  simp only [chk] at h
  split at h
  case h_2 => cases h
  rename_i o ys pos
  simp only [Bool.and_eq_true, decide_eq_true_eq] at h
  obtain ⟨⟨rfl, h1⟩, h2⟩ := h
  have hne : es ≠ [] := by
    intro z
    subst z
    simp only [chks] at h1
    split at h1
    · simp at h2
    · cases h1
  exact seb he X ys pos c h1 hne
def tUBT (K : Frag) (c : Cf) (op : BoolOp) (es : List E) : TT := fun σ H Q => ∃ B s r s' d b, evB c op es s = .ok r s' ∧ opd r s' = .ok d s' ∧ truth d = some b ∧ ∃ F, EnvR K B F H σ s ∧ ∀ H' F', Sub F F' → EnvR K B F' H' σ s' → Q b H'
theorem stb {op : BoolOp} : ∀ {es : List E}, (∀ e ∈ es, ST p n S e) → ∀ (X : Cx) (xs : List Expr) (pos : Pos), XC p n S X → chks S X.env.scope es xs = true → es ≠ [] → PW X (.BoolOp op xs pos) (tUBT X.K (p.cf n) op es)
  | [], _, _, _, _, _, _, h => (h rfl).elim
  | [e], he, X, xs, pos, c, h, _ => by
    simp only [chks] at h
    split at h
    · rename_i y ys
      rw [Bool.and_eq_true] at h
      obtain ⟨h1, h2⟩ := h
      split at h2
      · have base : PW X (.BoolOp op [y] pos) (tUT X.K (p.cf n) e) := by
          cases op with
          | And => exact pw_and1 (he e (by simp) X _ c h1)
          | Or => exact pw_or1 (he e (by simp) X _ c h1)
        refine PW.imp base fun σ H Q q => ?_
        obtain ⟨B, s, r0, s', d, b, hv, h3, h4, F, en, k⟩ := q
        obtain ⟨r1, s1, g1, w1⟩ := bind_inv hv
        obtain ⟨u, s2, g2, w2⟩ := bind_inv w1
        obtain ⟨rfl, rfl⟩ := pure_inv w2
        injection h3 with h3 _
        subst h3
        have e2 := fz_same g2
        subst e2
        have g2' : opd r1 s' = .ok u s' := by
          cases r1 with
          | frz x => exact g2
          | own x => exact g2
          | slot i => cases g2
        exact tUT_good g1 g2' h4 en k
      · cases h2
    · cases h
  | e :: e2 :: es, he, X, xs, pos, c, h, _ => by
    simp only [chks] at h
    split at h
    · rename_i y ys
      rw [Bool.and_eq_true] at h
      obtain ⟨h1, h2⟩ := h
      split at h2
      · rename_i y2 ys2
        have rest : PW X (.BoolOp op (y2 :: ys2) pos) (tUBT X.K (p.cf n) op (e2 :: es)) := stb (fun e' hm => he e' (List.mem_cons_of_mem _ hm)) X _ pos c (by simp only [chks]; exact h2) (by simp)
        have first := he e (by simp) X y c h1
        cases op with
        | And =>
          refine PW.imp (pw_and first rest) fun σ H Q q => ?_
          obtain ⟨B, s, r0, s', d, b0, hv, h3, h4, F, en, k⟩ := q
          obtain ⟨x, s1, b, g1, g2, g3⟩ := evB_cons hv
          refine tUT_good (b := b) g1 g2 rfl en fun H1 F1 q1 e1 => ?_
          rcases g3 with ⟨⟨_, rfl⟩ | ⟨z, _⟩, rfl, rfl⟩ | ⟨⟨_, rfl⟩ | ⟨z, _⟩, g4⟩
          · rw [if_neg Bool.false_ne_true]
            injection h3 with h3 _
            subst h3
            cases h4
            exact k H1 F1 q1 e1
          · cases z
          · rw [if_pos rfl]
            exact ⟨B, s1, r0, s', d, b0, g4, h3, h4, F1, e1, fun H2 F2 q2 e2 => k H2 F2 (q1.trans q2) e2⟩
          · cases z
        | Or =>
          refine PW.imp (pw_or first rest) fun σ H Q q => ?_
          obtain ⟨B, s, r0, s', d, b0, hv, h3, h4, F, en, k⟩ := q
          obtain ⟨x, s1, b, g1, g2, g3⟩ := evB_cons hv
          refine tUT_good (b := b) g1 g2 rfl en fun H1 F1 q1 e1 => ?_
          rcases g3 with ⟨⟨z, _⟩ | ⟨_, rfl⟩, rfl, rfl⟩ | ⟨⟨z, _⟩ | ⟨_, rfl⟩, g4⟩
          · cases z
          · rw [if_pos rfl]
            injection h3 with h3 _
            subst h3
            cases h4
            exact k H1 F1 q1 e1
          · cases z
          · rw [if_neg Bool.false_ne_true]
            exact ⟨B, s1, r0, s', d, b0, g4, h3, h4, F1, e1, fun H2 F2 q2 e2 => k H2 F2 (q1.trans q2) e2⟩
      · cases h2
    · cases h
theorem st_bop {op : BoolOp} {es : List E} (he : ∀ e ∈ es, ST p n S e) : ST p n S (.bop op es) := fun X x c h => by
  simp only [chk] at h
  split at h
  case h_2 => cases h
  rename_i o ys pos
  simp only [Bool.and_eq_true, decide_eq_true_eq] at h
  obtain ⟨⟨rfl, h1⟩, h2⟩ := h
  have hne : es ≠ [] := by
    intro z
    subst z
    simp only [chks] at h1
    split at h1
    · simp at h2
    · cases h1
  exact (stb he X ys pos c h1 hne).pt
end
end Ev

/-! Ev13: chains, built-ins, methods, calls. -/
namespace Ev
open PySem PySem.Spec L2
section
variable {p : Prg} {n : Nat} {S : Sx} {K : Frag} {c : Cf}
theorem chain_marks {o1 o2 : CmpOp} {m r : Expr} (h1 : notSet m = true) (h2 : notSet r = true) : lastMarks [o1, o2] [m, r] = false := notSet_marks (op := o2) h2
abbrev CmpRule (K : Frag) (op : CmpOp) : R2 := fun x y H Q => ∃ u v b, cmpOp op u v = some b ∧ ∃ F, Sub F H ∧ RpT K F H x u ∧ RpT K F H y v ∧ Want K F H (.frz (.bool b)) Q
/-- how a chain runs -/
theorem chain_inv {o1 o2 : CmpOp} {a b d : E} {s s' : Env} {r0 : Rv} (h : ev c (.chain o1 o2 a b d) s = .ok r0 s') : ∃ x s1 y s2 u v k, ev c a s = .ok x s1 ∧ ev c b s1 = .ok y s2 ∧ opd x s2 = .ok u s2 ∧ fz y s2 = .ok v s2 ∧ cmpOp o1 u v = some k ∧
    ((k = false ∧ r0 = .frz (.bool false) ∧ s' = s2) ∨ k = true ∧ ∃ z w k2, ev c d s2 = .ok z s' ∧ opd z s' = .ok w s' ∧ cmpOp o2 v w = some k2 ∧ r0 = .frz (.bool k2)) := by
  obtain ⟨x, s1, g1, w1⟩ := bind_inv h
  obtain ⟨y, s2, g2, w2⟩ := bind_inv w1
  obtain ⟨u, s3, g3, w3⟩ := bind_inv w2
  obtain ⟨v, s4, g4, w4⟩ := bind_inv w3
  obtain ⟨k, s5, g5, w5⟩ := bind_inv w4
  obtain ⟨g5', e5⟩ := opt_inv g5
  have e3 := opd_same g3
  have e4 := fz_same g4
  subst e3
  subst e4
  subst e5
  refine ⟨x, s1, y, _, u, v, k, g1, g2, g3, g4, g5', ?_⟩
  cases k with
  | false =>
    rw [if_neg Bool.false_ne_true] at w5
    obtain ⟨rfl, rfl⟩ := pure_inv w5
    exact .inl ⟨rfl, rfl, rfl⟩
  | true =>
    rw [if_pos rfl] at w5
    obtain ⟨z, s6, g6, w6⟩ := bind_inv w5
    obtain ⟨w, s7, g7, w7⟩ := bind_inv w6
    obtain ⟨k2, s8, g8, w8⟩ := bind_inv w7
    obtain ⟨g8', e8⟩ := opt_inv g8
    obtain ⟨rfl, e9⟩ := pure_inv w8
    have e7 := opd_same g7
    have es : s' = s6 := by rw [e9, e8, e7]
    subst es
    rw [e7] at g7
    exact .inr ⟨rfl, z, w, k2, g6, g7, g8', rfl⟩
theorem se_chain {o1 o2 : CmpOp} {a b d : E} (ha : SE p n S a) (hb : SE p n S b) (hd : SE p n S d) : SE p n S (.chain o1 o2 a b d) := fun X x c h => by
  simp only [chk] at h
  split at h
  case h_2 => cases h
  simp only [Bool.and_eq_true, decide_eq_true_eq] at h
  obtain ⟨⟨⟨⟨⟨⟨rfl, rfl⟩, h1⟩, h2⟩, h3⟩, h4⟩, h5⟩ := h
  have hu : X.A.units + 65 < cLine := by have := c.u; omega
  refine PE.imp (pe_chain (cmp_rule hu) (cmp_rule hu) (ha X _ c h1) (hb X _ c h2) (hd X _ c h3) (chain_marks h4 h5)) fun σ H Q q => ?_
  obtain ⟨B, s, r0, s', hv, F, en, k⟩ := q
  obtain ⟨x, s1, y, s2, u, v, kk, g1, g2, g3, g4, g5, hend⟩ := chain_inv hv
  refine tU_good g1 en fun x' H1 F1 q1 e1 rx => tU_good g2 e1 fun y' H2 F2 q2 e2 ry => ?_
  obtain ⟨_, tx⟩ := opd_ok e2 (rx.sub q2) g3
  obtain ⟨_, ty⟩ := fz_ok ry g4
  refine ⟨u, v, kk, g5, F2, e2.fh, tx, Rp.top e2.fh ty, fun z H3 F3 gr rr => ⟨kk, (show RpT X.K F3 H3 z (.bool kk) from rr).bl, ?_⟩⟩
  have e3 := e2.grow gr
  have q3 : Sub F F3 := q1.trans (q2.trans gr.ff)
  rcases hend with ⟨rfl, rfl, rfl⟩ | ⟨rfl, z', w, k2, g6, g7, g8, rfl⟩
  · rw [if_neg Bool.false_ne_true]
    exact k _ H3 F3 q3 e3 (.bl _)
  · rw [if_pos rfl]
    refine tU_good g6 e3 fun z'' H4 F4 q4 e4 rz => ?_
    obtain ⟨_, tz⟩ := opd_ok e4 rz g7
    exact ⟨v, w, k2, g8, F4, e4.fh, Rp.top e4.fh (Rp.sub (gr.ff.trans q4) ty), tz, want_of (q3.trans q4) e4 k⟩
theorem st_chain {o1 o2 : CmpOp} {a b d : E} (ha : SE p n S a) (hb : SE p n S b) (hd : SE p n S d) : ST p n S (.chain o1 o2 a b d) := fun X x c h => by
  simp only [chk] at h
  split at h
  case h_2 => cases h
  simp only [Bool.and_eq_true, decide_eq_true_eq] at h
  obtain ⟨⟨⟨⟨⟨⟨rfl, rfl⟩, h1⟩, h2⟩, h3⟩, h4⟩, h5⟩ := h
  have hu : X.A.units + 65 < cLine := by have := c.u; omega
  refine PT.imp (pt_chain (cmp_rule hu) (cmp_rule hu) (ha X _ c h1) (hb X _ c h2) (hd X _ c h3) (chain_marks h4 h5)) fun σ H Q q => ?_
  obtain ⟨B, s, r0, s', d0, b0, hv, q0, qt, F, en, k⟩ := q
  obtain ⟨x, s1, y, s2, u, v, kk, g1, g2, g3, g4, g5, hend⟩ := chain_inv hv
  refine tU_good g1 en fun x' H1 F1 q1 e1 rx => tU_good g2 e1 fun y' H2 F2 q2 e2 ry => ?_
  obtain ⟨_, tx⟩ := opd_ok e2 (rx.sub q2) g3
  obtain ⟨_, ty⟩ := fz_ok ry g4
  refine ⟨u, v, kk, g5, F2, e2.fh, tx, Rp.top e2.fh ty, fun z H3 F3 gr rr => ⟨kk, (show RpT X.K F3 H3 z (.bool kk) from rr).bl, ?_⟩⟩
  have e3 := e2.grow gr
  have q3 : Sub F F3 := q1.trans (q2.trans gr.ff)
  rcases hend with ⟨rfl, rfl, rfl⟩ | ⟨rfl, z', w, k2, g6, g7, g8, rfl⟩
  · rw [if_neg Bool.false_ne_true]
    injection q0 with q0 _
    subst q0
    cases qt
    exact ⟨false, rfl, k H3 F3 q3 e3⟩
  · rw [if_pos rfl]
    injection q0 with q0 _
    subst q0
    cases qt
    refine tU_good g6 e3 fun z'' H4 F4 q4 e4 rz => ?_
    obtain ⟨_, tz⟩ := opd_ok e4 rz g7
    exact ⟨v, w, b0, g8, F4, e4.fh, Rp.top e4.fh (Rp.sub (gr.ff.trans q4) ty), tz, fun z5 H5 F5 g5' rr5 => ⟨b0, (show RpT X.K F5 H5 z5 (.bool b0) from rr5).bl, k H5 F5 ((q3.trans q4).trans g5'.ff) (e4.grow g5')⟩⟩
/-! ### a conditional as a test -/
theorem pt_ifExp {X : Cx} {t a b : Expr} {pos : Pos} {tc ta tb : TT} (hc : PT X t tc) (ha : PT X a ta) (hb : PT X b tb) : PT X (.IfExp t a b pos) (fun σ H Q => tc σ H fun k H1 => if k = true then ta σ H1 Q else tb σ H1 Q) := by
  refine ⟨fun pins s σ H Q I h => ?_⟩
  show wpAny _ _ (do if ← isTrue t X.env (eval t X.env) then isTrue a X.env (eval a X.env) else isTrue b X.env (eval b X.env)) _ _ s
  refine wpAny_bind (thn (hc.run pins s σ H _ I h) fun d s1 ⟨H1, I1, q1⟩ => ?_)
  cases d with
  | true => exact ha.run pins s1 σ H1 Q I1 q1
  | false => exact hb.run pins s1 σ H1 Q I1 q1
theorem st_ite {t a b : E} (ht : ST p n S t) (ha : ST p n S a) (hb : ST p n S b) : ST p n S (.ite t a b) := fun X x c h => by
  simp only [chk] at h
  split at h
  case h_2 => cases h
  rw [Bool.and_eq_true, Bool.and_eq_true] at h
  refine PT.imp (pt_ifExp (ht X _ c h.1.1) (ha X _ c h.1.2) (hb X _ c h.2)) fun σ H Q q => ?_
  obtain ⟨B, s, r0, s', d0, b0, hv, h4, h5, F, en, k⟩ := q
  obtain ⟨r1, s1, g1, w1⟩ := bind_inv hv
  obtain ⟨u, s2, g2, w2⟩ := bind_inv w1
  obtain ⟨d, s3, g3, w3⟩ := bind_inv w2
  obtain ⟨g3', rfl⟩ := opt_inv g3
  obtain rfl := opd_same g2
  refine tUT_good g1 g2 g3' en fun H1 F1 q1 e1 => ?_
  split
  · rename_i hd
    rw [hd, if_pos rfl] at w3
    exact ⟨B, _, r0, s', d0, b0, w3, h4, h5, F1, e1, fun H2 F2 q2 e2 => k H2 F2 (q1.trans q2) e2⟩
  · rename_i hd
    rw [if_neg hd] at w3
    exact ⟨B, _, r0, s', d0, b0, w3, h4, h5, F1, e1, fun H2 F2 q2 e2 => k H2 F2 (q1.trans q2) e2⟩
/-! ### built-ins -/
theorem boot_ty (T : Ty) : bootBuiltins (PySem.Str.ofString T.name) = some (.type T.name) := by cases T <;> decide +kernel
theorem ty_in (T : Ty) : PySem.Str.ofString T.name ∈ bltNames := by cases T <;> decide +kernel
theorem ty_names (T : Ty) : PySem.Str.ofString T.name ≠ "__name__" ∧ (PySem.Str.ofString T.name == ("__debug__" : Str)) = false := by cases T <;> decide +kernel
theorem boot_isi : bootBuiltins "isinstance" = some (.builtin "isinstance") := by decide +kernel
theorem isi_rule {X : Cx} (T : Ty) : CallR X (.builtin "isinstance") fun xs H Q => ∃ d b, isiOp T d = some b ∧ ∃ F v, xs = [v, .ty T.name] ∧ Sub F H ∧ RpT X.K F H v d ∧ Q (.bl b) H :=
  fun pins s σ H xs us Q I r ⟨d, b, h, q⟩ => isi_ok h pins s σ H xs us Q I r q
theorem se_isi {T : Ty} {a : E} (ha : SE p n S a) : SE p n S (.isi T a) := fun X x c h => by
  simp only [chk] at h
  split at h
  case h_2 => cases h
  simp only [Bool.and_eq_true, decide_eq_true_eq] at h
  obtain ⟨⟨⟨⟨⟨rfl, h1⟩, rfl⟩, h3⟩, h4⟩, h5⟩ := h
  have hty : ∀ pos, PE X (.Name (PySem.Str.ofString T.name) pos) (tC (.ty T.name)) := fun pos => pe_bltn (gloB_ok rfl h4) (c.blt _ (ty_in T)) (boot_ty T) rfl (ty_names T).1 (ty_names T).2
  refine PE.imp (pe_callB (isi_rule T) (gloB_ok rfl h3) (c.blt _ (by decide +kernel)) boot_isi (pa_cons (ha X _ c h1) (pa_cons (hty _) pa_nil) (star_cons h5)) (by decide) (by decide) (star_cons h5) (star_plain (by rfl))) fun σ H Q q => ?_
  obtain ⟨B, s, r0, s', hv, F, en, k⟩ := q
  obtain ⟨r1, s1, g1, w1⟩ := bind_inv hv
  obtain ⟨u, s2, g2, w2⟩ := bind_inv w1
  obtain ⟨b, s3, g3, w3⟩ := bind_inv w2
  obtain ⟨g3', e3⟩ := opt_inv g3
  obtain ⟨rfl, e4⟩ := pure_inv w3
  have e2 := opd_same g2
  have es : s' = s1 := by rw [e4, e3, e2]
  subst es
  refine tU_good g1 en fun x H1 F1 q1 e1 rx => ?_
  obtain ⟨_, tx⟩ := opd_ok e1 rx g2
  exact ⟨u, b, g3', F1, x, rfl, e1.fh, tx, k _ H1 F1 q1 e1 (.bl _)⟩
def bltIsTy : Blt → Bool
  | .int => true | .list => true | .tuple => true | _ => false
theorem blt_facts (b : Blt) : bltName b ∈ bltNames ∧ bltName b ≠ "__name__" ∧ (bltName b == ("__debug__" : Str)) = false ∧ bootBuiltins (bltName b) = some (bltVal b) := by
  cases b <;> decide +kernel
theorem blt_rule {X : Cx} (b : Blt) (hc : X.calm = true) (hu : X.A.units + 70 < cLine) : CallR X (bltVal b) fun xs H Q => ∃ us r, bltOp b us = some r ∧ ∃ F, Sub F H ∧ RTs X.K F H xs us ∧ Want X.K F H r Q :=
  fun pins s σ H xs us Q I rx ⟨u, r, h, q⟩ => blt_ok hc hu h pins s σ H xs us Q I rx q
theorem pe_bltV {X : Cx} {b : Blt} {f : Str} {pp pos : Pos} {e : Expr} {es : List Expr} {t : TA} {r : List V → Hp → VK → Prop} (hr : CallR X (bltVal b) r) (hf : f = bltName b) (hg : Gl X f) (hm : X.mg f = none) (ha : PA X (e :: es) t) (he : starEach (e :: es) X.env = (false, eval e X.env) :: starEach es X.env)
    (hpl : (backTo pos (starEach es X.env)).any (·.1) = false) : PE X (.Call (.Name f pp) (e :: es) [] pos) (tCB r t) := by
  obtain ⟨_, h2, h3, h4⟩ := blt_facts b
  subst hf
  cases b <;> first | exact pe_callB hr hg hm h4 ha h2 h3 he hpl | exact pe_callTy hr hg hm h4 ha h2 h3 he hpl
theorem se_blt {b : Blt} {es : List E} (hs : SEs p n S es) : SE p n S (.blt b es) := fun X x c h => by
  simp only [chk] at h
  split at h
  case h_2 => cases h
  rename_i f pp ys pos
  simp only [Bool.and_eq_true, decide_eq_true_eq] at h
  obtain ⟨⟨⟨⟨hf, h1⟩, h2⟩, h3⟩, h4⟩ := h
  cases ys with
  | nil => simp at h4
  | cons y ys =>
    have h3' := h3
    rw [List.all_cons, Bool.and_eq_true] at h3'
    refine PE.imp (pe_bltV (blt_rule b c.calm (by have := c.u; omega)) hf (gloB_ok rfl h1) (c.blt _ (by rw [hf]; exact (blt_facts b).1)) (hs X _ c h2 h3) (star_cons h3'.1) (star_plain h3'.2)) fun σ H Q q => ?_
    obtain ⟨B, s, r0, s', hv, F, en, k⟩ := q
    obtain ⟨rs, s1, g1, w1⟩ := bind_inv hv
    obtain ⟨ds, s2, g2, w2⟩ := bind_inv w1
    obtain ⟨g3, e3⟩ := opt_inv w2
    refine ⟨B, s, rs, s1, g1, F, en, fun vs H1 F1 q1 e1 rv => ?_⟩
    obtain ⟨e2, tv⟩ := opds_ok e1 rv g2
    have es : s' = s1 := by rw [e3, e2]
    subst es
    exact ⟨ds, r0, g3, F1, e1.fh, tv, want_of q1 e1 k⟩
/-! ### methods -/
theorem baseKw {cpos : Pos} {env : PySem.Env} {e : Expr} (h : notStar e = true) : ((backTo cpos (starEach [e] env)).all (fun x => !x.1) && (backToKw cpos (keywordEach [] env)).all (fun x => x.1.isSome)
      && decide (([e] : List Expr).length + ([] : List Keyword).length + (if ([] : List Keyword).isEmpty then 0 else 1) < 30)) = true := by
  rw [star_cons h]; rfl
theorem mth_rule {X : Cx} (m : Mth) (hu : X.A.units + 70 < cLine) : MtR X (mthName m).2.2 fun x xs H Q => ∃ u us r, mthOp m u us = some r ∧ ∃ F, Sub F H ∧ RpT X.K F H x u ∧ RTs X.K F H xs us ∧ Want X.K F H r Q :=
  fun pins s σ H x xs v us Q I rx rxs ⟨u, us', r, h, q⟩ => mth_ok hu h pins s σ H x xs v us Q I rx rxs q
theorem pe_mth {X : Cx} {m : Mth} {nm : Str} {o e : Expr} {apos cpos : Pos} {r : V → List V → Hp → VK → Prop} {to : TE} {t : TA} (hr : MtR X (mthName m).2.2 r) (hn : nm = mthNm m) (ho : PE X o to) (ha : PA X [e] t)
    (hb : baseOk o = true) (hl : apos.endLine = cpos.line) (hs : notStar e = true) : PE X (.Call (.Attribute o nm apos) [e] [] cpos) (tBM X.K "list" r to t) := by
  subst hn
  cases m with
  | count => exact pe_bm PySem.F.plainAttrs_list PySem.F.slot_list_count PySem.F.type_list_count hr ho ha (baseOk_base hb) (baseKw hs) (by rw [hl]; exact beq_self_eq_true _) (star_cons hs) (star_plain (by rfl))
  | index => exact pe_bm PySem.F.plainAttrs_list PySem.F.slot_list_index PySem.F.type_list_index hr ho ha (baseOk_base hb) (baseKw hs) (by rw [hl]; exact beq_self_eq_true _) (star_cons hs) (star_plain (by rfl))
theorem mth_list {m : Mth} {u : PV} {us : List PV} {r : Rv} (h : mthOp m u us = some r) : ∃ ds, u = .list ds := by
  unfold mthOp at h
  split at h
  · exact ⟨_, rfl⟩
  · exact ⟨_, rfl⟩
  · cases h
theorem se_mth {m : Mth} {o : E} {es : List E} (ho : SE p n S o) (hs : SEs p n S es) : SE p n S (.mth m o es) := fun X x c h => by
  simp only [chk] at h
  split at h
  case h_2 => cases h
  rename_i o' nm apos ys cpos
  simp only [Bool.and_eq_true, decide_eq_true_eq] at h
  obtain ⟨⟨⟨⟨⟨⟨hn, h1⟩, h2⟩, h3⟩, h4⟩, h5⟩, h6⟩ := h
  match ys, h6, h2, h3 with
  | [y], _, h2, h3 =>
    have h3' := h3
    rw [List.all_cons, Bool.and_eq_true] at h3'
    refine PE.imp (pe_mth (mth_rule m (by have := c.u; omega)) hn (ho X _ c h1) (hs X _ c h2 h3) h4 h5 h3'.1) fun σ H Q q => ?_
    obtain ⟨B, s, r0, s', hv, F, en, k⟩ := q
    obtain ⟨r1, s0, g0, w0⟩ := bind_inv hv
    obtain ⟨u0, s0', gu, w0'⟩ := bind_inv w0
    have eu := opd_same gu
    subst eu
    split at w0'
    case isFalse => cases w0'
    rename_i hl0
    obtain ⟨rs, s1, g1, w1⟩ := bind_inv w0'
    obtain ⟨u, s2, g2, w2⟩ := bind_inv w1
    obtain ⟨ds, s3, g3, w3⟩ := bind_inv w2
    obtain ⟨g4, e4⟩ := opt_inv w3
    obtain ⟨es', rfl⟩ := mth_list g4
    refine tU_good g0 en fun x H1 F1 q1 e1 rx => ?_
    -- the receiver is a list already
    have ty : tyV X.K "list" x H1 := by
      obtain ⟨_, tx⟩ := opd_ok e1 rx gu
      cases u0 with
      | list ds0 =>
        obtain ⟨a, vs, rfl, ha, _⟩ := tx.lst
        exact .inl ⟨rfl, vs, .inl ha⟩
      | _ => cases hl0
    refine ⟨ty, B, _, rs, s1, g1, F1, e1, fun vs H2 F2 q2 e2 rv => ?_⟩
    obtain ⟨e5, tx⟩ := opd_ok e2 (rx.sub q2) g2
    subst e5
    obtain ⟨e6, tv⟩ := opds_ok e2 rv g3
    have es : s' = _ := e4.trans e6
    subst es
    exact ⟨.list es', ds, r0, g4, F2, e2.fh, tx, tv, want_of (q1.trans q2) e2 k⟩
/-! ### calls of own defs -/
theorem se_call {f : Nat} {es : List E} (hs : SEs p n S es) : SE p n S (.call f es) := fun X x c h => by
  simp only [chk] at h
  split at h
  case h_2 => cases h
  rename_i y pp ys pos
  simp only [Bool.and_eq_true, decide_eq_true_eq] at h
  obtain ⟨⟨⟨⟨⟨hf, h1⟩, h2⟩, h3⟩, h4⟩, h5⟩ := h
  obtain ⟨fa, fd, ps, hm, hk, hb, F⟩ := c.fn f y hf
  cases ys with
  | nil => simp at h5
  | cons z zs =>
    have h4' := h4
    rw [List.all_cons, Bool.and_eq_true] at h4'
    refine PE.imp (pe_call F c.room (gloB_ok rfl h1) hm hk hb .nil pass0 (hs X _ c h3 h4) (plainName_ok h2).1 (star_cons h4'.1) (star_plain h4'.2)) fun σ H Q q => ?_
    obtain ⟨B, s, r0, s', hv, F0, en, k⟩ := q
    obtain ⟨rs, s1, g1, w1⟩ := bind_inv hv
    have w1 : callFn (p.cf n) f rs s1 = .ok r0 s' := w1
    obtain ⟨pq, s2, g2, w2⟩ := bind_inv w1
    refine ⟨B, s, rs, s1, g1, F0, en, fun vs H1 F1 q1 e1 rv => ?_⟩
    obtain ⟨e2, as, ar, lr⟩ := passArgs_ok e1 rv g2
    subst e2
    split at w2
    · rename_i nd
      obtain ⟨ro, s3, g3, w3⟩ := bind_inv w2
      obtain ⟨g3', e3⟩ := opt_inv g3
      subst e3
      obtain ⟨_, s4, g4, w4⟩ := bind_inv w3
      obtain ⟨e5, e6⟩ := pure_inv w4
      subst e5
      subst e6
      refine ⟨F1, pq.1, as, ro.1, ro.2, e1.fh, g3', by rw [List.append_nil]; exact ar, lr.nodup e1 nd, fun v F' H' po => ?_⟩
      obtain ⟨e7, r7⟩ := e1.called lr nd g4 po
      exact k v H' F' (q1.trans po.ff) e7 r7
    · cases w2
end
end Ev

/-! Ev14: targets, what is walked, comprehensions. -/
namespace Ev
open PySem PySem.Spec L2
section
variable {p : Prg} {n : Nat} {S : Sx} {K : Frag} {c : Cf}
theorem len_two {α : Type} : ∀ {l : List α}, l.length = 2 → ∃ a b, l = [a, b]
  | [a, b], _ => ⟨a, b, rfl⟩
  | [], h => by simp at h
  | [_], h => by simp at h
  | _ :: _ :: _ :: _, h => by simp at h
theorem evs_len {c : Cf} : ∀ {es : List E} {s s' : Env} {rs : List Rv}, evs c es s = .ok rs s' → rs.length = es.length
  | [], _, _, _, h => by obtain ⟨rfl, _⟩ := pure_inv h; rfl
  | e :: es, _, _, _, h => by
    obtain ⟨r1, t1, f1, v1⟩ := bind_inv h
    obtain ⟨rs2, t2, f2, v2⟩ := bind_inv v1
    obtain ⟨rfl, _⟩ := pure_inv v2
    simp [evs_len f2]
theorem fzs_len : ∀ {rs : List Rv} {s s' : Env} {ds : List PV}, fzs rs s = .ok ds s' → ds.length = rs.length
  | [], _, _, _, h => by obtain ⟨rfl, _⟩ := pure_inv h; rfl
  | e :: es, _, _, _, h => by
    obtain ⟨r1, t1, f1, v1⟩ := bind_inv h
    obtain ⟨rs2, t2, f2, v2⟩ := bind_inv v1
    obtain ⟨rfl, _⟩ := pure_inv v2
    simp [fzs_len f2]
theorem fzs_same : ∀ {rs : List Rv} {s s' : Env} {ds : List PV}, fzs rs s = .ok ds s' → s' = s
  | [], _, _, _, h => (pure_inv h).2
  | e :: es, _, _, _, h => by
    obtain ⟨r1, t1, f1, v1⟩ := bind_inv h
    obtain ⟨rs2, t2, f2, v2⟩ := bind_inv v1
    obtain ⟨_, e2⟩ := pure_inv v2
    rw [e2, fzs_same f2, fz_same f1]
theorem chks_len {sc : Scope} : ∀ {es : List E} {xs : List Expr}, chks S sc es xs = true → es.length = xs.length
  | [], xs, h => by cases xs <;> first | rfl | (simp [chks] at h)
  | e :: es, [], h => by simp [chks] at h
  | e :: es, x :: xs, h => by
    simp only [chks, Bool.and_eq_true] at h
    simp [chks_len h.2]
theorem seq_range {lo hi : Int} {F : Hp} : ∀ {m : Nat}, m = (hi - lo).toNat → RpAll K F (rgV lo hi) ((List.range m).map fun i => .int (lo + (i : Nat))) := by
  intro m e
  subst e
  have := RpAll.ofInts (K := K) (F := F) ((List.range (hi - lo).toNat).map fun i => lo + (i : Nat))
  rw [List.map_map, List.map_map] at this
  exact this
theorem rng_inv {vs xs : List PV} (h : rngItems vs = some xs) : (∃ n : Int, vs = [.int n] ∧ -(2 ^ 62) ≤ n ∧ n ≤ 16777216 ∧ xs = (List.range n.toNat).map fun i => .int (i : Nat)) ∨
    ∃ lo hi : Int, vs = [.int lo, .int hi] ∧ -(2 ^ 62) ≤ lo ∧ lo < 2 ^ 62 ∧ hi - lo ≤ 16777216 ∧ -(2 ^ 62) ≤ hi ∧ hi < 2 ^ 62 ∧ xs = (List.range (hi - lo).toNat).map fun i => .int (lo + (i : Nat)) := by
  unfold rngItems at h
  split at h
  · split at h
    · rename_i n hb
      cases h
      exact .inl ⟨n, rfl, hb.1, hb.2, rfl⟩
    · cases h
  · split at h
    · rename_i lo hi hb
      cases h
      exact .inr ⟨lo, hi, rfl, hb.1, hb.2.1, hb.2.2.1, hb.2.2.2.1, hb.2.2.2.2, rfl⟩
    · cases h
  · cases h
theorem chks_cons {sc : Scope} {es : List E} {y : Expr} {ys : List Expr} (h : chks S sc es (y :: ys) = true) : ∃ e es', es = e :: es' ∧ chk S sc e y = true ∧ chks S sc es' ys = true := by
  cases es with
  | nil => simp [chks] at h
  | cons e es => simp only [chks, Bool.and_eq_true] at h; exact ⟨e, es, rfl, h.1, h.2⟩
theorem chks_nil {sc : Scope} {es : List E} (h : chks S sc es [] = true) : es = [] := by
  cases es with
  | nil => rfl
  | cons e es => simp [chks] at h
theorem se_lrng {es : List E} (he : ∀ e ∈ es, SE p n S e) : SE p n S (.lrng es) := fun X x c h => by
  simp only [chk] at h
  split at h
  case h_2 => cases h
  rename_i f pf g pg ys pos1 pos2
  simp only [Bool.and_eq_true, decide_eq_true_eq, Bool.or_eq_true] at h
  obtain ⟨⟨⟨⟨⟨⟨rfl, rfl⟩, h1⟩, h2⟩, h3⟩, h4⟩, h5⟩ := h
  have hl : X.mg "list" = none := c.blt _ (by decide +kernel)
  have hr : X.mg "range" = none := c.blt _ (by decide +kernel)
  rcases h5 with h5 | h5
  · obtain ⟨y, rfl⟩ := List.length_eq_one_iff.mp h5
    obtain ⟨e, es', rfl, h6, h7⟩ := chks_cons h3
    obtain rfl := chks_nil h7
    have hy : notStar y = true := by simpa using h4
    refine PE.imp (pe_listRg c.calm (gloB_ok rfl h1) hl (prg_1 (gloB_ok rfl h2) hr (he e (by simp) X y c h6) (star_cons hy))) fun σ H Q q => ?_
    obtain ⟨B, s, r0, s', hv, F, en, k⟩ := q
    obtain ⟨rs, s1, g1, w1⟩ := bind_inv hv
    obtain ⟨r1, t1, f1, v1⟩ := bind_inv g1
    obtain ⟨rs2, t2, f2, v2⟩ := bind_inv v1
    obtain ⟨e5, e6⟩ := pure_inv f2
    subst e5 e6
    obtain ⟨e5, e6⟩ := pure_inv v2
    subst e5 e6
    obtain ⟨ds, s2, g2, w2⟩ := bind_inv w1
    obtain ⟨xs, s3, g3, w3⟩ := bind_inv w2
    obtain ⟨g3', e3⟩ := opt_inv g3
    obtain ⟨e5, e4⟩ := pure_inv w3
    subst e5
    refine tU_good f1 en fun v H1 F1 q1 e1 rv => ?_
    obtain ⟨e2, ra⟩ := fzs_ok (.cons rv .nil) g2
    have es' : s' = s1 := by rw [e4, e3, e2]
    subst es'
    rcases rng_inv g3' with ⟨m, rfl, b1, b2, rfl⟩ | ⟨lo, hi, rfl, _⟩
    · obtain ⟨v', ws, e5, r5, r6⟩ := ra.cons_inv
      cases e5
      cases r5
      have hz : (2 ^ 24 : Nat) = 16777216 := by decide
      refine ⟨m, rfl, ⟨by decide, by decide, b1, by omega, by omega⟩, ?_⟩
      refine (want_of q1 e1 k).lst e1.fh ?_
      have := seq_range (K := X.K) (F := F1) (lo := 0) (hi := m) rfl
      simpa using this
    · have := ra.length; simp at this
  · obtain ⟨y, z, rfl⟩ := len_two h5
    obtain ⟨e, es', rfl, h6, h7⟩ := chks_cons h3
    obtain ⟨e', es', rfl, h8, h9⟩ := chks_cons h7
    obtain rfl := chks_nil h9
    have hy : notStar y = true ∧ notStar z = true := by simpa using h4
    refine PE.imp (pe_listRg c.calm (gloB_ok rfl h1) hl (prg_2 (gloB_ok rfl h2) hr (he e (by simp) X y c h6) (he e' (by simp) X z c h8) (star_cons hy.1) (star_cons hy.2) (star_plain (by simpa using hy.2)))) fun σ H Q q => ?_
    obtain ⟨B, s, r0, s', hv, F, en, k⟩ := q
    obtain ⟨rs, s1, g1, w1⟩ := bind_inv hv
    obtain ⟨r1, t1, f1, v1⟩ := bind_inv g1
    obtain ⟨rs2, t2, f2, v2⟩ := bind_inv v1
    obtain ⟨r3, t3, f3, v3⟩ := bind_inv f2
    obtain ⟨rs4, t4, f4, v4⟩ := bind_inv v3
    obtain ⟨e5, e6⟩ := pure_inv f4
    subst e5 e6
    obtain ⟨e5, e6⟩ := pure_inv v4
    subst e5 e6
    obtain ⟨e5, e6⟩ := pure_inv v2
    subst e5 e6
    obtain ⟨ds, s2, g2, w2⟩ := bind_inv w1
    obtain ⟨xs, s3, g3, w3⟩ := bind_inv w2
    obtain ⟨g3', e3⟩ := opt_inv g3
    obtain ⟨e5, e4⟩ := pure_inv w3
    subst e5
    refine two (R := fun x y H2 => ∃ i j, x = .int i ∧ y = .int j ∧ RgOk i j ∧ ∀ q, H2 q = none → Q (.ref q) (upd H2 q (.lst (rgV i j)))) f1 f3 en fun v w H1 F1 q1 e1 rv rw' => ?_
    obtain ⟨e2, ra⟩ := fzs_ok (.cons rv (.cons rw' .nil)) g2
    have es' : s' = s1 := by rw [e4, e3, e2]
    subst es'
    rcases rng_inv g3' with ⟨m, rfl, b1, b2, rfl⟩ | ⟨lo, hi, rfl, b1, b2, b3, b4, b5, rfl⟩
    · have := ra.length; simp at this
    · obtain ⟨v', ws, e5, r5, r6⟩ := ra.cons_inv
      cases e5
      cases r5
      obtain ⟨w', ws', e6, r7, r8⟩ := r6.cons_inv
      cases e6
      cases r7
      have hz : (2 ^ 24 : Nat) = 16777216 := by decide
      exact ⟨lo, hi, rfl, rfl, ⟨b1, b2, b4, b5, by omega⟩, (want_of q1 e1 k).lst e1.fh (seq_range rfl)⟩
/-! ### what is walked -/
def tUI (K : Frag) (c : Cf) (k : ItK) (es : List E) : TI := fun σ H R => ∃ B s rs s' ds xs, evs c es s = .ok rs s' ∧ fzs rs s' = .ok ds s' ∧ items k ds = some xs ∧
  ∃ F, EnvR K B F H σ s ∧ ∀ J H' F', Sub F F' → EnvR K B F' H' σ s' → WalkD K F' J xs → R J H'
theorem si_all {k : ItK} {es : List E} (he : ∀ e ∈ es, SE p n S e) (hs : SEs p n S es) {X : Cx} {tg x : Expr} {ys : List Expr} (c : XC p n S X) (h : itArgs X.env.scope k tg x = some ys) (hc : chks S X.env.scope es ys = true) : PI X tg x (tUI X.K (p.cf n) k es) := by
  cases k with
  | val =>
    cases h
    obtain ⟨e, es', rfl, h6, h7⟩ := chks_cons hc
    obtain rfl := chks_nil h7
    have pe := he e (by simp) X x c h6
    -- a list or a tuple
    refine ⟨fun pins s σ H R I q => ?_⟩
    obtain ⟨B, s0, rs, s', ds, xs, g1, g2, g3, F, en, kk⟩ := q
    obtain ⟨r1, t1, f1, v1⟩ := bind_inv g1
    obtain ⟨rs2, t2, f2, v2⟩ := bind_inv v1
    obtain ⟨e5, e6⟩ := pure_inv f2
    subst e5 e6
    obtain ⟨e5, e6⟩ := pure_inv v2
    subst e5 e6
    obtain ⟨d, t3, f3, v3⟩ := bind_inv g2
    obtain ⟨ds2, t4, f4, v4⟩ := bind_inv v3
    obtain ⟨e5, e6⟩ := pure_inv f4
    subst e5
    obtain ⟨e5, e7⟩ := pure_inv v4
    subst e5
    have g3 : seq? d = some xs := g3
    cases d with
    | list es' =>
      cases g3
      refine (pi_list (tg := tg) (PE_sized pe)).run pins s σ H R I (tU_good f1 en fun v H1 F1 q1 e1 rv => ?_)
      obtain ⟨_, rd⟩ := fz_ok rv f3
      cases rd with
      | lst a b => exact fun hz => ⟨_, rfl, ⟨_, SqL.sub e1.fh (.inl a)⟩, kk _ H1 F1 q1 e1 (walkD_list (.inl a) b (hz _ _ rfl (.inl (SqL.sub e1.fh (.inl a)))))⟩
    | tuple es' =>
      cases g3
      refine (pi_tup (tg := tg) (PE_sized pe)).run pins s σ H R I (tU_good f1 en fun v H1 F1 q1 e1 rv => ?_)
      obtain ⟨_, rd⟩ := fz_ok rv f3
      cases rd with
      | tup a b => exact fun hz => ⟨_, rfl, ⟨_, SqT.sub e1.fh a⟩, kk _ H1 F1 q1 e1 (walkD_tup a b (hz _ _ rfl (.inr (SqT.sub e1.fh a))))⟩
    | _ => cases g3
  | rng =>
    unfold itArgs at h
    simp only at h
    split at h
    case h_2 => cases h
    split at h
    case isFalse => cases h
    rename_i f pf zs pos hf
    cases h
    obtain ⟨rfl, h1, h2, h3⟩ := hf
    have hr : X.mg "range" = none := c.blt _ (by decide +kernel)
    have pa := hs X _ c hc h2
    rcases h3 with h3 | h3
    · obtain ⟨y, rfl⟩ := List.length_eq_one_iff.mp h3
      have hy : notStar y = true := by simpa using h2
      refine PI.imp (pi_range1 (gloB_ok rfl h1) hr pa (star_cons hy)) fun σ H R q => ?_
      obtain ⟨B, s0, rs, s', ds, xs, g1, g2, g3, F, en, kk⟩ := q
      refine ⟨B, s0, rs, s', g1, F, en, fun vs H1 F1 q1 e1 rv => ?_⟩
      obtain ⟨_, ra⟩ := fzs_ok rv g2
      rcases rng_inv g3 with ⟨m, rfl, b1, b2, rfl⟩ | ⟨lo, hi, rfl, _⟩
      · obtain ⟨v', ws, rfl, r5, r6⟩ := ra.cons_inv
        cases r5
        obtain rfl := r6.nil_inv
        refine ⟨m, rfl, b1, by omega, kk _ H1 F1 q1 e1 ?_⟩
        have := walkD_range (K := X.K) (F1 := F1) (lo := 0) (n := m.toNat) (by rw [sizeLine_eq]; omega)
        simpa using this
      · obtain ⟨v', ws, rfl, r5, r6⟩ := ra.cons_inv
        obtain ⟨w', ws', rfl, r7, r8⟩ := r6.cons_inv
        exfalso
        have l1 := evs_len g1
        have l2 := chks_len hc
        have l3 := fzs_len g2
        simp at l2 l3
        omega
    · obtain ⟨y, z, rfl⟩ := len_two h3
      have hy : notStar y = true ∧ notStar z = true := by simpa using h2
      refine PI.imp (pi_range2 (gloB_ok rfl h1) hr pa (by rw [star_cons hy.1, star_cons hy.2]; rfl) (star_cons hy.2)) fun σ H R q => ?_
      obtain ⟨B, s0, rs, s', ds, xs, g1, g2, g3, F, en, kk⟩ := q
      refine ⟨B, s0, rs, s', g1, F, en, fun vs H1 F1 q1 e1 rv => ?_⟩
      obtain ⟨_, ra⟩ := fzs_ok rv g2
      rcases rng_inv g3 with ⟨m, rfl, b1, b2, rfl⟩ | ⟨lo, hi, rfl, b1, b2, b3, b4, b5, rfl⟩
      · exfalso
        have l1 := evs_len g1
        have l2 := chks_len hc
        have l3 := fzs_len g2
        simp at l2 l3
        omega
      · obtain ⟨v', ws, rfl, r5, r6⟩ := ra.cons_inv
        cases r5
        obtain ⟨w', ws', rfl, r7, r8⟩ := r6.cons_inv
        cases r7
        obtain rfl := r8.nil_inv
        exact ⟨lo, hi, rfl, ⟨b1, b2, b4, b5⟩, kk _ H1 F1 q1 e1 (walkD_range (by rw [sizeLine_eq]; omega))⟩
  | enm =>
    unfold itArgs at h
    simp only at h
    split at h
    case h_2 => cases h
    split at h
    case isFalse => cases h
    rename_i elts kk0 tpos f pf y pos hf
    cases h
    obtain ⟨rfl, h1, h2⟩ := hf
    refine PI.imp (pi_enumA (gloB_ok rfl h1) (c.blt _ (by decide +kernel)) (PA_sized (hs X _ c hc (by simpa using h2))) (star_cons h2)) fun σ H R q => ?_
    obtain ⟨B, s0, rs, s', ds, xs, g1, g2, g3, F, en, kk⟩ := q
    refine ⟨B, s0, rs, s', g1, F, en, fun vs H1 F1 q1 e1 rv hz => ?_⟩
    obtain ⟨_, ra⟩ := fzs_ok rv g2
    have g3 : enmItems ds = some xs := g3
    unfold enmItems at g3
    split at g3
    case h_2 => cases g3
    rename_i d
    obtain ⟨v', ws, rfl, r5, r6⟩ := ra.cons_inv
    obtain rfl := r6.nil_inv
    cases r5 with
    | lst a b =>
      cases g3
      exact ⟨_, _, rfl, .inl ⟨SqL.sub e1.fh (.inl a), kk _ H1 F1 q1 e1 (walkD_enum (.inl a) b (hz _ _ (.inl (SqL.sub e1.fh (.inl a)))))⟩⟩
    | tup a b =>
      cases g3
      exact ⟨_, _, rfl, .inr ⟨SqT.sub e1.fh a, kk _ H1 F1 q1 e1 (walkD_enumT a b (hz _ _ (.inr (SqT.sub e1.fh a))))⟩⟩
    | _ => cases g3
  | zip =>
    unfold itArgs at h
    simp only at h
    split at h
    case h_2 => cases h
    split at h
    case isFalse => cases h
    rename_i elts kk0 tpos f pf y z pos hf
    cases h
    obtain ⟨rfl, h1, h2, h3⟩ := hf
    refine PI.imp (RZ.pi_zipA (gloB_ok rfl h1) (c.blt _ (by decide +kernel)) (PA_sized (hs X _ c hc (by simp [h2, h3]))) (star_cons h2) (star_plain (by simp [h3]))) fun σ H R q => ?_
    obtain ⟨B, s0, rs, s', ds, xs, g1, g2, g3, F, en, kk⟩ := q
    refine ⟨B, s0, rs, s', g1, F, en, fun vs H1 F1 q1 e1 rv hz => ?_⟩
    obtain ⟨_, ra⟩ := fzs_ok rv g2
    have g3 : zipItems ds = some xs := g3
    unfold zipItems at g3
    split at g3
    · cases g3
      obtain ⟨v', ws, rfl, r5, r6⟩ := ra.cons_inv
      obtain ⟨w', ws', rfl, r7, r8⟩ := r6.cons_inv
      obtain rfl := r8.nil_inv
      cases r5 with
      | lst a b =>
        cases r7 with
        | lst a' b' => exact ⟨_, _, _, _, rfl, .inl ⟨SqL.sub e1.fh (.inl a), SqL.sub e1.fh (.inl a'), kk _ H1 F1 q1 e1 (walkD_zip (.inl a) b (.inl a') b' (hz _ _ (.inl (SqL.sub e1.fh (.inl a)))))⟩⟩
    · cases g3
      obtain ⟨v', ws, rfl, r5, r6⟩ := ra.cons_inv
      obtain ⟨w', ws', rfl, r7, r8⟩ := r6.cons_inv
      obtain rfl := r8.nil_inv
      cases r5 with
      | tup a b =>
        cases r7 with
        | tup a' b' => exact ⟨_, _, _, _, rfl, .inr ⟨SqT.sub e1.fh a, SqT.sub e1.fh a', kk _ H1 F1 q1 e1 (walkD_zipT a b a' b' (hz _ _ (.inr (SqT.sub e1.fh a))))⟩⟩
    · cases g3
end
end Ev

/-! Ev15: targets, comprehensions. -/
namespace Ev
open PySem PySem.Spec L2
section
variable {p : Prg} {n : Nat} {S : Sx} {K : Frag} {c : Cf}
theorem asg_cons {e : Expr} {es : List Expr} {env : PySem.Env} (h : notStar e = true) : assignEach (e :: es) env = (false, assign e env) :: assignEach es env := by
  cases e <;> first | rfl | cases h
theorem asg_len {env : PySem.Env} : ∀ {es : List Expr}, es.all notStar = true → (assignEach es env).length = es.length
  | [], _ => rfl
  | e :: es, h => by
    rw [List.all_cons, Bool.and_eq_true] at h
    rw [asg_cons h.1, List.length_cons, asg_len h.2, List.length_cons]
theorem asg_find {env : PySem.Env} : ∀ {es : List Expr}, es.all notStar = true → (assignEach es env).findIdx? (·.1) = none
  | [], _ => rfl
  | e :: es, h => by
    rw [List.all_cons, Bool.and_eq_true] at h
    rw [asg_cons h.1, List.findIdx?_cons]
    simp [asg_find h.2]
def tUG (K : Frag) (t : Tg) : TG := fun v σ H Q => ∃ B F s d s', EnvR K B F H σ s ∧ Rp K F v d ∧ bindT t d s = .ok () s' ∧
  ∀ σ', EnvR K B F H σ' s' → σ'.length = σ.length → (∀ i, i ∉ tgSlots t → σ'[i]? = σ[i]?) → Q σ' H
def tUGs (K : Frag) (ts : List Tg) : TGs := fun vs σ H Q => ∃ B F s ds s', EnvR K B F H σ s ∧ RpAll K F vs ds ∧ ds.length = ts.length ∧ bindTs ts ds s = .ok () s' ∧
  ∀ σ', EnvR K B F H σ' s' → σ'.length = σ.length → (∀ i, i ∉ tgSlots.tgSlotsL ts → σ'[i]? = σ[i]?) → Q σ' H
/-- who may store here -/
structure XT (X : Cx) (own : Str → Bool) : Prop where
  fn : ∀ x, own x = true → X.fn x = true
mutual
theorem sg_tg : ∀ (t : Tg) {X : Cx} {x : Expr} {own : Str → Bool}, XC p n S X → XT X own → chkT S X.env.scope own t x = true → PG X x (tUG X.K t)
  | .name i, X, x, own, c, xt, h => by
    simp only [chkT] at h
    split at h
    case h_2 => cases h
    rename_i y pos
    simp only [Bool.and_eq_true, decide_eq_true_eq, Bool.or_eq_true] at h
    obtain ⟨⟨h1, h2⟩, h3⟩ := h
    have hf : X.fn y = true ∨ X.env.scope.names.lookup y = some .local := by
      rcases h3 with h3 | h3
      · exact .inl (xt.fn y h3)
      · exact .inr h3
    refine PG.imp (pg_name c.nd (by rw [c.hN]; exact h1) (locB_ok h2) hf) fun v σ H Q q => ?_
    obtain ⟨B, F, s, d, s', en, r, hb, k⟩ := q
    have hb : store i (.frz d) s = .ok () s' := by simpa only [bindT] using hb
    refine k _ (store_env en hb r) (by simp) fun j hj => ?_
    simp only [tgSlots, List.mem_singleton] at hj
    exact List.getElem?_set_ne (Ne.symm hj)
  | .tup ts, X, x, own, c, xt, h => by
    simp only [chkT] at h
    split at h
    case h_2 => cases h
    rename_i xs k0 pos
    rw [Bool.and_eq_true] at h
    have pgs := sg_tgs ts (xs := xs) c xt h.1 h.2
    refine PG.imp (pg_tup (n := xs.length) c.calm pgs (asg_len h.2) (asg_find h.2)) fun v σ H Q q => ?_
    obtain ⟨B, F, s, d, s', en, r, hb, k⟩ := q
    cases d with
    | tuple ds =>
      simp only [bindT] at hb
      split at hb
      · rename_i hl
        cases r with
        | tup a b =>
          refine ⟨_, _, rfl, SqT.sub en.fh a, ?_, B, F, s, ds, s', en, b, hl, hb, fun σ' e' l' o' => k σ' e' l' fun i hi => o' i ?_⟩
          · rw [b.length, hl]; exact chkTs_len h.1
          · simpa only [tgSlots] using hi
      · cases hb
    | _ => simp only [bindT] at hb; cases hb
theorem sg_tgs : ∀ (ts : List Tg) {X : Cx} {xs : List Expr} {own : Str → Bool}, XC p n S X → XT X own → chkTs S X.env.scope own ts xs = true → xs.all notStar = true → PGs X xs (tUGs X.K ts)
  | [], X, xs, own, c, xt, h, hn => by
    simp only [chkTs] at h
    split at h
    case h_2 => cases h
    refine ⟨fun pins s σ H vs us Q I r q => ?_⟩
    obtain ⟨B, F, s0, ds, s', en, ra, hl, hb, k⟩ := q
    cases ds with
    | cons d ds => simp at hl
    | nil =>
      obtain rfl := ra.nil_inv
      refine pgs_nil.run pins s σ H [] us Q I r ⟨rfl, ?_⟩
      simp only [bindTs] at hb
      obtain ⟨_, rfl⟩ := pure_inv hb
      exact k σ en rfl fun _ _ => rfl
  | t :: ts, X, xs, own, c, xt, h, hn => by
    simp only [chkTs] at h
    split at h
    case h_2 => cases h
    rename_i x ys
    rw [Bool.and_eq_true] at h
    rw [List.all_cons, Bool.and_eq_true] at hn
    have p1 := sg_tg t (x := x) c xt h.1
    have p2 := sg_tgs ts (xs := ys) c xt h.2 hn.2
    refine ⟨fun pins s σ H vs us Q I r q => ?_⟩
    refine (pgs_cons p1 p2 (by rw [asg_cons hn.1]; rfl)).run pins s σ H vs us Q I r ?_
    obtain ⟨B, F, s0, ds, s', en, ra, hl, hb, k⟩ := q
    cases ds with
    | nil => simp at hl
    | cons d ds =>
      obtain ⟨v, ws, rfl, r1, r2⟩ := ra.cons_inv
      simp only [bindTs] at hb
      obtain ⟨_, s1, g1, g2⟩ := bind_inv hb
      refine ⟨v, ws, rfl, B, F, s0, d, s1, en, r1, g1, fun σ1 e1 l1 o1 => ?_⟩
      refine ⟨B, F, s1, ds, s', e1, r2, by simpa using hl, g2, fun σ2 e2 l2 o2 => k σ2 e2 (l2.trans l1) fun i hi => ?_⟩
      simp only [tgSlots.tgSlotsL, List.mem_append, not_or] at hi
      rw [o2 i hi.2, o1 i hi.1]
theorem chkTs_len : ∀ {ts : List Tg} {sc : Scope} {own : Str → Bool} {xs : List Expr}, chkTs S sc own ts xs = true → ts.length = xs.length
  | [], _, _, xs, h => by cases xs <;> first | rfl | (simp [chkTs] at h)
  | t :: ts, _, _, [], h => by simp [chkTs] at h
  | t :: ts, _, _, x :: xs, h => by
    simp only [chkTs, Bool.and_eq_true] at h
    simp [chkTs_len h.2]
end
end
end Ev

/-! Ev16: list comprehensions. -/
namespace Ev
open PySem PySem.Spec L2
section
variable {K : Frag} {B : Bs} {F H F' H' : Hp} {σ σ' : L2.St} {s : Env}
theorem wipe_set (v : Nat) : ∀ (vs : List Nat) (σ : L2.St), wipe (σ.set v none) vs = (wipe σ vs).set v none
  | [], _ => rfl
  | u :: us, σ => by
    show (wipe (σ.set v none) us).set u none = ((wipe σ us).set u none).set v none
    rw [wipe_set v us σ]
    by_cases h : v = u
    · subst h; rfl
    · exact List.set_comm _ _ h
theorem wipe_get_out {σ : L2.St} {i : Nat} : ∀ {vs : List Nat}, i ∉ vs → (wipe σ vs)[i]? = σ[i]?
  | [], _ => rfl
  | v :: vs, h => by
    simp only [List.mem_cons, not_or] at h
    show ((wipe σ vs).set v none)[i]? = _
    rw [List.getElem?_set_ne (Ne.symm h.1), wipe_get_out h.2]
theorem wipe_get_in {σ : L2.St} {i : Nat} : ∀ {vs : List Nat}, i ∈ vs → (wipe σ vs)[i]? = if i < σ.length then some none else none
  | v :: vs, h => by
    show ((wipe σ vs).set v none)[i]? = _
    by_cases e : v = i
    · subst e
      by_cases hl : v < σ.length
      · rw [List.getElem?_set_self (by rw [wipe_length]; exact hl), if_pos hl]
      · rw [List.getElem?_eq_none (by simp [wipe_length]; omega), if_neg hl]
    · rw [List.getElem?_set_ne e]
      rcases List.mem_cons.mp h with z | z
      · exact (e z.symm).elim
      · exact wipe_get_in z
theorem wipe_ext {σ σ' : L2.St} {vs : List Nat} (hl : σ'.length = σ.length) (ho : ∀ i, i ∉ vs → σ'[i]? = σ[i]?) : wipe σ' vs = wipe σ vs := by
  refine List.ext_getElem? fun i => ?_
  by_cases h : i ∈ vs
  · rw [wipe_get_in h, wipe_get_in h, hl]
  · rw [wipe_get_out h, wipe_get_out h, ho i h]
theorem wipe_wipe {σ : L2.St} {vs : List Nat} : wipe (wipe σ vs) vs = wipe σ vs := wipe_ext (wipe_length _ _) fun i h => wipe_get_out h
/-- the own names of a block hidden -/
theorem EnvR.hidden : ∀ (vs : List Nat) {σ : L2.St} {s : Env}, EnvR K B F H σ s → (vs.all fun i => (s[i]?.map hideable).getD false) = true → EnvR K B F H (wipe σ vs) (hide vs s)
  | [], σ, s, en, _ => en
  | v :: vs, σ, s, en, h => by
    rw [List.all_cons, Bool.and_eq_true] at h
    obtain ⟨h1, h2⟩ := h
    cases hv : s[v]? with
    | none => rw [hv] at h1; cases h1
    | some y =>
      rw [hv] at h1
      have ny : isIo y = false := by cases y <;> first | rfl | cases h1
      have e1 : EnvR K B F H (σ.set v none) (s.set v .emp) := en.put hv ny (by simp) (fun j n => List.getElem?_set_ne (Ne.symm n)) trivial rfl
      have hi : v < s.length := (List.getElem?_eq_some_iff.mp hv).1
      have h3 : (vs.all fun i => ((s.set v .emp)[i]?.map hideable).getD false) = true := by
        rw [List.all_eq_true] at h2 ⊢
        intro i him
        by_cases e : v = i
        · subst e; rw [List.getElem?_set_self hi]; rfl
        · rw [List.getElem?_set_ne e]; exact h2 i him
      have := EnvR.hidden vs e1 h3
      rw [wipe_set] at this
      exact this
theorem hideM_inv {vs : List Nat} {s' : Env} (h : hideM vs s = .ok () s') : (vs.all fun i => (s[i]?.map hideable).getD false) = true ∧ s' = hide vs s := by
  unfold hideM at h
  split at h
  · rename_i hh
    injection h with _ h
    exact ⟨hh, h.symm⟩
  · cases h
theorem hide_get_in {i : Nat} : ∀ {vs : List Nat} {s : Env}, i ∈ vs → i < s.length → (hide vs s)[i]? = some .emp
  | v :: vs, s, h, hl => by
    show (hide vs (s.set v .emp))[i]? = _
    by_cases hm : i ∈ vs
    · exact hide_get_in hm (by simpa using hl)
    · rcases List.mem_cons.mp h with e | e
      · subst e
        rw [hide_get_out hm, List.getElem?_set_self hl]
      · exact (hm e).elim
where
  hide_get_out {i : Nat} : ∀ {vs : List Nat} {s : Env}, i ∉ vs → (hide vs s)[i]? = s[i]?
  | [], _, _ => rfl
  | v :: vs, s, h => by
    simp only [List.mem_cons, not_or] at h
    show (hide vs (s.set v .emp))[i]? = _
    rw [hide_get_out h.2, List.getElem?_set_ne (Ne.symm h.1)]
/-- they are seen again -/
theorem EnvR.restored {s0 : Env} : ∀ (vs : List Nat) {σ1 : L2.St} {s : Env}, EnvR K B F H σ1 s → σ1.length = σ.length → (∀ i, i ∉ vs → σ1[i]? = σ[i]?) → (∀ i ∈ vs, ∃ y, s[i]? = some y ∧ isIo y = false) →
    (∀ i ∈ vs, ∃ x, s0[i]? = some x ∧ hideable x = true ∧ SlotR K B F H σ i x) → EnvR K B F H σ (restore vs s0 s)
  | [], σ1, s, en, hl, ho, _, _ => by
    have : σ1 = σ := List.ext_getElem? fun i => ho i (by simp)
    subst this
    exact en
  | v :: vs, σ1, s, en, hl, ho, hs, h0 => by
    obtain ⟨y, hy, ny⟩ := hs v (by simp)
    obtain ⟨x, hx, hh, hr⟩ := h0 v (by simp)
    have hv : v < σ1.length := en.lt hy
    have hget : σ[v]? = some σ[v] := List.getElem?_eq_getElem (by omega)
    have e1 : EnvR K B F H (σ1.set v σ[v]) (s.set v x) := by
      refine en.put hy ny (by simp) (fun j n => List.getElem?_set_ne (Ne.symm n)) (hr.other ?_) (by cases x <;> first | rfl | cases hh)
      rw [List.getElem?_set_self hv, hget]
    have hgd : s0.getD v .emp = x := by rw [List.getD_eq_getElem?_getD, hx]; rfl
    show EnvR K B F H σ (restore vs s0 (s.set v (s0.getD v .emp)))
    rw [hgd]
    refine EnvR.restored vs e1 (by simpa using hl) (fun i hi => ?_) (fun i hi => ?_) (fun i hi => h0 i (List.mem_cons_of_mem _ hi))
    · by_cases e : v = i
      · subst e; rw [List.getElem?_set_self hv, hget]
      · rw [List.getElem?_set_ne e]; exact ho i (by simp only [List.mem_cons, not_or]; exact ⟨fun z => e z.symm, hi⟩)
    · by_cases e : v = i
      · subst e
        exact ⟨x, List.getElem?_set_self (List.getElem?_eq_some_iff.mp hy).1, by cases x <;> first | rfl | cases hh⟩
      · rw [List.getElem?_set_ne e]; exact hs i (List.mem_cons_of_mem _ hi)
/-- a new thing at hand -/
abbrev Bs.with (B : Bs) (a : Addr) (d : PV) : Bs := { B with T := (a, d) :: B.T }
theorem SlotR.base {B' : Bs} (h0 : B'.H0 = B.H0) (hi : B'.I = B.I) {i : Nat} {x : Slot} (h : SlotR K B F H σ i x) : SlotR K B' F H σ i x := by
  cases x with
  | emp => trivial
  | frz d => exact h
  | own d => obtain ⟨a, h1, h2, h3, h4⟩ := h; exact ⟨a, h1, h2, by rw [h0]; exact h3, h4⟩
  | io d => obtain ⟨a, h1, h2, h3, h4⟩ := h; exact ⟨a, h1, by rw [hi]; exact h2, h3, h4⟩
/-- a result of one's own is kept at hand -/
theorem EnvR.hold (en : EnvR K B F H σ s) {a : Addr} {d : PV} (r : RvR K B F H σ s (.ref a) (.own d)) : EnvR K (B.with a d) F H σ s := by
  obtain ⟨a', e, h1, h2, h3, h4, h5⟩ := r
  cases e
  refine ⟨en.fh, en.len, fun i x h => (en.slot i x h).base rfl rfl, en.apart, fun p hp => ?_, fun p hp => ?_, ?_, en.lent, en.keep, en.fnew, en.fold⟩
  · rcases List.mem_cons.mp hp with rfl | hp
    · exact ⟨h1, h2, h3⟩
    · exact en.tmp p hp
  · rcases List.mem_cons.mp hp with rfl | hp
    · exact h4
    · exact en.tmpA p hp
  · show ((a, d).1 :: B.T.map (·.1)).Nodup
    refine List.nodup_cons.mpr ⟨fun hm => ?_, en.tmpN⟩
    obtain ⟨p, hp, e⟩ := List.mem_map.mp hm
    exact h5 p hp e
/-- .. and let go -/
theorem EnvR.unhold {a : Addr} {d : PV} (en : EnvR K (B.with a d) F H σ s) : EnvR K B F H σ s ∧ RvR K B F H σ s (.ref a) (.own d) := by
  have hn := en.tmpN
  have hn : ((a, d).1 :: B.T.map (·.1)).Nodup := hn
  obtain ⟨n1, n2⟩ := List.nodup_cons.mp hn
  refine ⟨⟨en.fh, en.len, fun i x h => (en.slot i x h).base rfl rfl, en.apart, fun p hp => en.tmp p (List.mem_cons_of_mem _ hp), fun p hp => en.tmpA p (List.mem_cons_of_mem _ hp), n2, en.lent, en.keep, en.fnew, en.fold⟩, ?_⟩
  obtain ⟨h1, h2, h3⟩ := en.tmp (a, d) List.mem_cons_self
  exact ⟨a, rfl, h1, h2, h3, en.tmpA (a, d) List.mem_cons_self, fun p hp z => n1 (List.mem_map.mpr ⟨p, hp, z⟩)⟩
/-- the list at hand grows -/
theorem EnvR.tmpSet {a : Addr} {ds es : List PV} {ys : List V} (en : EnvR K (B.with a (.list ds)) F H σ s) (r : RpAll K F ys es) : EnvR K (B.with a (.list es)) F (upd H a (.lst ys)) σ s := by
  obtain ⟨h1, h2, h3⟩ := en.tmp (a, .list ds) List.mem_cons_self
  have hn : ((a, PyData.list ds).1 :: B.T.map (·.1)).Nodup := en.tmpN
  obtain ⟨n1, n2⟩ := List.nodup_cons.mp hn
  have st : ∀ {b : Addr} {o : HO}, b ≠ a → H b = some o → upd H a (.lst ys) b = some o := fun n h => by rw [upd_ne n]; exact h
  refine ⟨fun b o h => st (fun z => ?_) (en.fh b o h), en.len, fun i x h => ?_, en.apart, fun p hp => ?_, fun p hp => ?_, hn, en.lent, fun b o h nl => st (fun z => ?_) (en.keep b o h nl), en.fnew, en.fold⟩
  · rw [z] at h; rw [h1] at h; cases h
  · have w := en.slot i x h
    cases x with
    | emp => trivial
    | frz d => exact w
    | own d =>
      obtain ⟨b, w1, w2, w3, w4⟩ := w
      have nb : b ≠ a := fun z => en.tmpA (a, .list ds) List.mem_cons_self i _ h rfl (by rw [w1, z])
      exact ⟨b, w1, w2, w3, w4.stay (Sub.refl F) fun o ho => st nb ho⟩
    | io d =>
      obtain ⟨b, w1, w2, w3, w4⟩ := w
      have nb : b ≠ a := fun z => en.tmpA (a, .list ds) List.mem_cons_self i _ h rfl (by rw [w1, z])
      exact ⟨b, w1, w2, w3, w4.stay (Sub.refl F) fun o ho => st nb ho⟩
  · rcases List.mem_cons.mp hp with rfl | hp
    · exact ⟨h1, h2, ys, upd_same, r⟩
    · obtain ⟨g1, g2, g3⟩ := en.tmp p (List.mem_cons_of_mem _ hp)
      have nb : p.1 ≠ a := fun z => n1 (List.mem_map.mpr ⟨p, hp, z⟩)
      exact ⟨g1, g2, g3.stay (Sub.refl F) fun o ho => st nb ho⟩
  · rcases List.mem_cons.mp hp with rfl | hp
    · exact en.tmpA (a, .list ds) List.mem_cons_self
    · exact en.tmpA p (List.mem_cons_of_mem _ hp)
  · rw [z] at h
    have h2 : B.H0 a = none := h2
    rw [h2] at h; cases h
end
end Ev

/-! Ev17: a list comprehension's rule. -/
namespace Ev
open PySem PySem.Spec L2
section
variable {p : Prg} {n : Nat} {S : Sx} {K : Frag} {c : Cf}
def tUTs (K : Frag) (c : Cf) (ifs : List E) : TT := fun σ H Q => ∃ B s b s', evT c ifs s = .ok b s' ∧ ∃ F, EnvR K B F H σ s ∧ ∀ H' F', Sub F F' → EnvR K B F' H' σ s' → Q b H'
theorem pts_all {ifs : List E} {xs : List Expr} (ht : ∀ e ∈ ifs, ST p n S e) {X : Cx} (c : XC p n S X) (h : chks S X.env.scope ifs xs = true) (hl : xs.length ≤ 1) : PTs X xs (tUTs X.K (p.cf n) ifs) := by
  match xs, hl, h with
  | [], _, h =>
    obtain rfl := chks_nil h
    refine ⟨fun pins s σ H Q I q => ?_⟩
    obtain ⟨B, s0, b, s', hv, F, en, k⟩ := q
    obtain ⟨rfl, rfl⟩ := pure_inv hv
    exact pts_nil.run pins s σ H Q I (k H F (Sub.refl F) en)
  | [x], _, h =>
    obtain ⟨e, es, rfl, h1, h2⟩ := chks_cons h
    obtain rfl := chks_nil h2
    refine ⟨fun pins s σ H Q I q => ?_⟩
    obtain ⟨B, s0, b, s', hv, F, en, k⟩ := q
    obtain ⟨r1, s1, g1, w1⟩ := bind_inv hv
    obtain ⟨u, s2, g2, w2⟩ := bind_inv w1
    obtain ⟨b1, s3, g3, w3⟩ := bind_inv w2
    obtain ⟨g3', e3⟩ := opt_inv g3
    have e2 := opd_same g2
    subst e2
    subst e3
    have hb : b1 = b ∧ s' = s3 := by
      split at w3
      · rename_i hb1
        obtain ⟨e1, e2⟩ := pure_inv w3
        exact ⟨by rw [e1, hb1], e2⟩
      · rename_i hb1
        obtain ⟨e1, e2⟩ := pure_inv w3
        exact ⟨by rw [e1]; simpa using hb1, e2⟩
    obtain ⟨rfl, rfl⟩ := hb
    exact (pts_one (ht e (by simp) X x c h1)).run pins s σ H Q I (tUT_good g1 g2 g3' en k)
  | _ :: _ :: _, hl, _ => simp at hl
/-- One turn of a comprehension. -/
def lcTurn (c : Cf) (tg : Tg) (ifs : List E) (elt : E) : PV → M (Option PV) := fun x => do
  bindT tg x
  let b ← evT c ifs
  if b then do let r ← ev c elt; let v ← fz r; pure (some v) else pure none
theorem drop_cons {α : Type} {xs : List α} {i : Nat} {d : α} (h : xs[i]? = some d) : xs.drop i = d :: xs.drop (i + 1) := by
  obtain ⟨h1, h2⟩ := List.getElem?_eq_some_iff.mp h
  rw [← h2]
  exact List.drop_eq_getElem_cons h1
/-- a comprehension's parts -/
def LcP (p : Prg) (n : Nat) (X : Cx) (own : List (Str × Nat)) (elt : E) (tg : Tg) (k : ItK) (its ifs : List E) (x : Expr) : Prop :=
  ∃ (elt' tg' it' : Expr) (ifs' : List Expr) (scope : Scope) (pos : Pos) (wi : TI) (g : TG) (tt : TT) (te : TE), x = .ListComp elt' [⟨tg', it', ifs', 0⟩] scope pos ∧ PI X tg' it' wi ∧ BlkOk X.N X.env.scope scope own ∧
    (∀ (s : Shared) (H : Hp) (C : Addr) (cl : List (Str × Addr)) (fp : List Addr), PG (X.blk s H scope (compEnvC scope cl C X.env) fp) tg' g) ∧
    (∀ (s : Shared) (H : Hp) (C : Addr) (cl : List (Str × Addr)) (fp : List Addr), PTs (X.blk s H scope (compEnvC scope cl C X.env) fp) ifs' tt) ∧
    (∀ (s : Shared) (H : Hp) (C : Addr) (cl : List (Str × Addr)) (fp : List Addr), PE (X.blk s H scope (compEnvC scope cl C X.env) fp) elt' te) ∧ notSet it' = true ∧
    ∀ σ H Q, tU X.K (p.cf n) (.lc own elt tg k its ifs) σ H Q → tLc wi g tt te (own.map (·.2)) σ H Q
theorem lc_parts {own : List (Str × Nat)} {elt : E} {tg : Tg} {k : ItK} {its ifs : List E} (helt : SE p n S elt) (hits : ∀ e ∈ its, SE p n S e) (hitss : SEs p n S its) (hifs : ∀ e ∈ ifs, ST p n S e) {X : Cx} {x : Expr} (c : XC p n S X) (h : chk S X.env.scope (.lc own elt tg k its ifs) x = true) : LcP p n X own elt tg k its ifs x := by
  simp only [chk] at h
  split at h
  case h_2 => cases h
  rename_i elt' tg' it' ifs' a scope pos
  simp only [Bool.and_eq_true, decide_eq_true_eq] at h
  obtain ⟨⟨⟨⟨⟨⟨⟨⟨rfl, h1⟩, h2⟩, h3⟩, h4⟩, h5⟩, h6⟩, h7⟩, h8⟩ := h
  split at h8
  case h_2 => cases h8
  rename_i ys hy
  have wi := si_all (k := k) hits hitss c hy h8
  have cb : ∀ (s : Shared) (H : Hp) (C : Addr) (cl : List (Str × Addr)) (fp : List Addr), XC p n S (X.blk s H scope (compEnvC scope cl C X.env) fp) := fun s H C cl fp => c.blk s H scope _ fp
  have sc : ∀ (s : Shared) (H : Hp) (C : Addr) (cl : List (Str × Addr)) (fp : List Addr), (X.blk s H scope (compEnvC scope cl C X.env) fp).env.scope = relS scope X.env.scope := fun _ _ _ _ _ => rfl
  refine ⟨elt', tg', it', ifs', scope, pos, tUI X.K (p.cf n) k its, tUG X.K tg, tUTs X.K (p.cf n) ifs, tU X.K (p.cf n) elt, rfl, wi, by rw [c.hN]; exact blkOk_by h1,
    (fun s H C cl fp => sg_tg tg (X := X.blk s H scope (compEnvC scope cl C X.env) fp) (cb s H C cl fp) (own := fun y => scope.names.lookup y == some .cell) ⟨fun x hx => hx⟩ h2),
    (fun s H C cl fp => pts_all (X := X.blk s H scope (compEnvC scope cl C X.env) fp) hifs (cb s H C cl fp) h4 h5),
    (fun s H C cl fp => helt _ elt' (cb s H C cl fp) h3), h7, fun σ H Q q => ?_⟩
  obtain ⟨B, s, r0, s', hv, F, en, kk⟩ := q
  obtain ⟨rs, s1, g1, w1⟩ := bind_inv hv
  obtain ⟨ds, s2, g2, w2⟩ := bind_inv w1
  obtain ⟨xs, s3, g3, w3⟩ := bind_inv w2
  obtain ⟨g3', e3⟩ := opt_inv g3
  have e2 : s2 = s1 := by
    clear w1 w2 w3 g3 e3
    revert g2
    generalize s1 = t
    intro g2
    exact fzs_same g2
  subst e2
  subst e3
  generalize hvs : own.map (·.2) = vs at w3 h6 ⊢
  unfold lcAll at w3
  obtain ⟨acc, se, w4, w5⟩ := RE.andThen_inv w3
  injection w5 with e4 e5
  subst e4
  obtain ⟨_, s4, w6, w7⟩ := bind_inv w4
  obtain ⟨hh, rfl⟩ := hideM_inv w6
  refine ⟨B, s, rs, s3, ds, xs, g1, g2, g3', F, en, fun J H1 F1 q1 e1 wd D hD => ?_⟩
  -- the invariant
  refine ⟨fun i m H => m = xs.length - i ∧ i ≤ xs.length ∧ ∃ F2 s2 a2, EnvR X.K (B.with D (.list a2)) F2 H (wipe σ vs) s2 ∧ Sub F1 F2 ∧ a2.length ≤ i ∧ (∀ j ∈ vs, s2[j]? = some .emp) ∧
    lcLoop vs (lcTurn (p.cf n) tg ifs elt) (xs.drop i) a2 s2 = .ok acc se, ⟨xs.length, by simp, Nat.zero_le _, ?_⟩, ?_⟩
  · have g : Grow F1 H1 F1 (upd H1 D (.lst [])) := Grow.own e1.fh hD
    have e2 := e1.grow g
    have r2 : RvR X.K B F1 (upd H1 D (.lst [])) σ s3 (.ref D) (.own (.list [])) := ResR.rv e1 g ⟨D, rfl, hD, e1.fh.none hD, [], upd_same, .nil⟩
    have e3 := (e2.hold r2).hidden vs hh
    refine ⟨F1, _, [], e3, Sub.refl F1, Nat.le_refl _, fun j hj => ?_, by rw [List.drop_zero]; exact w7⟩
    have hj' := List.all_eq_true.mp hh j hj
    refine hide_get_in hj ?_
    cases hs : s3[j]? with
    | none => rw [hs] at hj'; cases hj'
    | some y => exact (List.getElem?_eq_some_iff.mp hs).1
  · rintro i m H ⟨rfl, hi, F2, s2, a2, e2, sub2, ha2, hemp, hloop⟩
    have s12 : Sub F1 H := sub2.trans e2.fh
    by_cases hlt : i < xs.length
    · right
      refine ⟨wd.go i H hlt s12, fun H' => i + 1 ≤ xs.length ∧ ∃ F3 s3 a3, EnvR X.K (B.with D (.list a3)) F3 H' (wipe σ vs) s3 ∧ Sub F1 F3 ∧ a3.length ≤ i + 1 ∧ (∀ j ∈ vs, s3[j]? = some .emp) ∧ lcLoop vs (lcTurn (p.cf n) tg ifs elt) (xs.drop (i + 1)) a3 s3 = .ok acc se, fun H' hn => ⟨xs.length - (i + 1), by omega, rfl, hn.1, hn.2⟩, fun x H' hy' => ?_⟩
      obtain ⟨F3, d, g, hd, rd⟩ := wd.yld i F2 H x H' hlt sub2 e2.fh hy'
      rw [drop_cons hd] at hloop
      obtain ⟨ro, t1, f1, v1⟩ := bind_inv hloop
      obtain ⟨_, t2, f2, v2⟩ := bind_inv v1
      obtain ⟨hh2, rfl⟩ := hideM_inv f2
      obtain ⟨_, t3, f3, v3⟩ := bind_inv f1
      obtain ⟨b, t4, f4, v4⟩ := bind_inv v3
      have e3 := e2.grow g
      refine ⟨_, F3, s2, d, t3, e3, rd, f3, fun σ2 e4 l4 o4 => ?_⟩
      have hw : wipe σ2 vs = wipe σ vs := by
        have : wipe σ2 vs = wipe (wipe σ vs) vs := wipe_ext l4 fun j hj => o4 j fun hm => hj (by
          have := List.all_eq_true.mp h6 j hm
          simpa using this)
        rw [this, wipe_wipe]
      refine ⟨hw, _, t3, b, t4, f4, F3, e4, fun H5 F5 q5 e5 => ?_⟩
      have fin : ∀ {H6 : Hp} {F6 : Hp} {a6 : List PV}, Sub F1 F6 → a6.length ≤ i + 1 → EnvR X.K (B.with D (.list a6)) F6 H6 σ2 t1 → lcLoop vs (lcTurn (p.cf n) tg ifs elt) (xs.drop (i + 1)) a6 (hide vs t1) = .ok acc se →
          i + 1 ≤ xs.length ∧ ∃ F3 s3 a3, EnvR X.K (B.with D (.list a3)) F3 H6 (wipe σ vs) s3 ∧ Sub F1 F3 ∧ a3.length ≤ i + 1 ∧ (∀ j ∈ vs, s3[j]? = some .emp) ∧ lcLoop vs (lcTurn (p.cf n) tg ifs elt) (xs.drop (i + 1)) a3 s3 = .ok acc se := by
        intro H6 F6 a6 q6 l6 e6 hl6
        refine ⟨hlt, F6, _, a6, ?_, q6, l6, fun j hj => ?_, hl6⟩
        · rw [← hw]; exact e6.hidden vs hh2
        · have hj' := List.all_eq_true.mp hh2 j hj
          refine hide_get_in hj ?_
          cases hs : t1[j]? with
          | none => rw [hs] at hj'; cases hj'
          | some y => exact (List.getElem?_eq_some_iff.mp hs).1
      cases b with
      | false =>
        rw [if_neg Bool.false_ne_true] at v4
        obtain ⟨rfl, rfl⟩ := pure_inv v4
        dsimp only
        rw [if_neg Bool.false_ne_true]
        exact fin (sub2.trans (g.ff.trans q5)) (by omega) e5 v2
      | true =>
        rw [if_pos rfl] at v4
        dsimp only
        rw [if_pos rfl]
        obtain ⟨r1, t5, f5, v5⟩ := bind_inv v4
        obtain ⟨dv, t6, f6, v6⟩ := bind_inv v5
        obtain ⟨rfl, rfl⟩ := pure_inv v6
        have et := fz_same f6
        subst et
        refine tU_good f5 e5 fun y H6 F6 q6 e6 ry => ?_
        obtain ⟨_, rdv⟩ := fz_ok ry f6
        obtain ⟨_, _, vsD, hDl, hDr⟩ := e6.tmp (D, .list a2) List.mem_cons_self
        refine ⟨vsD, hDl, ?_, ?_⟩
        · rw [hDr.length]
          have := wd.len
          omega
        · exact fin (sub2.trans (g.ff.trans (q5.trans q6))) (by simp; omega) (e6.tmpSet (hDr.append (.cons rdv .nil))) v2
    · left
      have ei : i = xs.length := by omega
      subst ei
      refine ⟨wd.stop H s12, ?_⟩
      rw [List.drop_length] at hloop
      obtain ⟨rfl, rfl⟩ := pure_inv hloop
      have e3 : EnvR X.K (B.with D (.list acc)) F2 H σ (restore vs s3 se) := by
        refine e2.restored vs (wipe_length _ _) (fun j hj => wipe_get_out hj) (fun j hj => ⟨_, hemp j hj, rfl⟩) fun j hj => ?_
        have hj' := List.all_eq_true.mp hh j hj
        cases hs : s3[j]? with
        | none => rw [hs] at hj'; cases hj'
        | some y =>
          rw [hs] at hj'
          refine ⟨y, rfl, by simpa using hj', ?_⟩
          have w := e1.slot j y hs
          cases y with
          | emp => trivial
          | frz d => obtain ⟨v, w1, w2⟩ := w; exact ⟨v, w1, Rp.sub sub2 w2⟩
          | own d => cases hj'
          | io d => cases hj'
      obtain ⟨e4, r4⟩ := e3.unhold
      rw [e5] at e4 r4
      exact kk _ H F2 (q1.trans sub2) e4 r4
theorem se_lc {own : List (Str × Nat)} {elt : E} {tg : Tg} {k : ItK} {its ifs : List E} (helt : SE p n S elt) (hits : ∀ e ∈ its, SE p n S e) (hitss : SEs p n S its) (hifs : ∀ e ∈ ifs, ST p n S e) : SE p n S (.lc own elt tg k its ifs) := fun X x c h => by
  obtain ⟨elt', tg', it', ifs', scope, pos, wi, g, tt, te, rfl, h1, h2, h3, h4, h5, h6, h7⟩ := lc_parts helt hits hitss hifs c h
  exact PE.imp (pe_lc (own := own) c.calm c.nd h1 h2 h3 h4 h5 (notSet_folded h6)) h7
end
end Ev

/-! Ev18: every expression. -/
namespace Ev
open PySem PySem.Spec L2
section
variable {p : Prg} {n : Nat} {S : Sx}
def PX (p : Prg) (n : Nat) (S : Sx) (e : E) : Prop := SE p n S e ∧ ST p n S e ∧ ∀ a, e = .star a → SE p n S a
theorem ses_of {es : List E} (h : ∀ e ∈ es, PX p n S e) : SEs p n S es := by
  induction es with
  | nil => exact ses_nil
  | cons e es ih => exact ses_cons (h e (by simp)).1 (ih fun x hx => h x (by simp [hx]))
theorem sea_of {es : List E} (h : ∀ e ∈ es, PX p n S e) : SEA p n S es := by
  induction es with
  | nil => exact sea_nil
  | cons e es ih =>
    have ih := ih fun x hx => h x (by simp [hx])
    have he := h e (by simp)
    by_cases hs : isStar e = false
    · exact sea_plain hs he.1 ih
    · cases e <;> first | exact absurd rfl hs | exact sea_star (he.2.2 _ rfl) ih
theorem px_plain {e : E} (h : SE p n S e) (hp : ∀ (X : Cx) (x : Expr), chk S X.env.scope e x = true → plainTest x = true) (hs : ∀ a, e = .star a → SE p n S a) : PX p n S e := ⟨h, st_of_se h hp, hs⟩
local macro_rules | `(tactic| trivial) => `(tactic| (intro X x h; simp only [chk] at h; split at h <;> first | rfl | cases h))
theorem no_star {e : E} (h : isStar e = false) : ∀ a, e = .star a → SE p n S a := by
  intro a ha
  rw [ha] at h
  cases h
mutual
theorem px : ∀ e : E, PX p n S e
  | .cint i => px_plain se_cint (by trivial) (no_star rfl)
  | .cbl b => px_plain se_cbl (by trivial) (no_star rfl)
  | .cnon => px_plain se_cnon (by trivial) (no_star rfl)
  | .cstr z => px_plain se_cstr (by trivial) (no_star rfl)
  | .var i => px_plain se_var (by trivial) (no_star rfl)
  | .mv i => px_plain se_mv (by trivial) (no_star rfl)
  | .peek i => px_plain se_peek (by trivial) (no_star rfl)
  | .glb g => px_plain se_glb (by trivial) (no_star rfl)
  | .bin op a b => px_plain (se_bin (px a).1 (px b).1) (by trivial) (no_star rfl)
  | .neg a => px_plain (se_neg (px a).1) (by trivial) (no_star rfl)
  | .not a => ⟨se_not (px a).1, st_not (px a).2.1, no_star rfl⟩
  | .bop op es => ⟨se_bop fun e he => (pxs es e he).1, st_bop fun e he => (pxs es e he).2.1, no_star rfl⟩
  | .cmp op a b => ⟨se_cmp (px a).1 (px b).1, st_cmp (px a).1 (px b).1, no_star rfl⟩
  | .chain o1 o2 a b d => ⟨se_chain (px a).1 (px b).1 (px d).1, st_chain (px a).1 (px b).1 (px d).1, no_star rfl⟩
  | .ite t a b => ⟨se_ite (px t).2.1 (px a).1 (px b).1, st_ite (px t).2.1 (px a).2.1 (px b).2.1, no_star rfl⟩
  | .tup es => px_plain (se_tup (sea_of (pxs es))) (by trivial) (no_star rfl)
  | .lst es => px_plain (se_lst (sea_of (pxs es))) (by trivial) (no_star rfl)
  | .dct0 => px_plain se_dct0 (by trivial) (no_star rfl)
  | .star e => ⟨fun X x c h => (by simp [chk] at h), fun X x c h => (by simp [chk] at h), fun a ha => (by cases ha; exact (px e).1)⟩
  | .idx a i => px_plain (se_idx (px a).1 (px i).1) (by trivial) (no_star rfl)
  | .slcL a lo => px_plain (se_slcL (px a).1 (px lo).1) (by trivial) (no_star rfl)
  | .slcH a hi => px_plain (se_slcH (px a).1 (px hi).1) (by trivial) (no_star rfl)
  | .slcLH a lo hi => px_plain (se_slcLH (px a).1 (px lo).1 (px hi).1) (by trivial) (no_star rfl)
  | .isi T a => px_plain (se_isi (px a).1) (by trivial) (no_star rfl)
  | .blt b es => px_plain (se_blt (ses_of (pxs es))) (by trivial) (no_star rfl)
  | .lrng es => px_plain (se_lrng fun e he => (pxs es e he).1) (by trivial) (no_star rfl)
  | .mth m o es => px_plain (se_mth (px o).1 (ses_of (pxs es))) (by trivial) (no_star rfl)
  | .call f es => px_plain (se_call (ses_of (pxs es))) (by trivial) (no_star rfl)
  | .lc own elt tg k its ifs => px_plain (se_lc (px elt).1 (fun e he => (pxs its e he).1) (ses_of (pxs its)) fun e he => (pxs ifs e he).2.1) (by trivial) (no_star rfl)
  | .lc2 .. => ⟨fun X x c h => (by simp [chk] at h), fun X x c h => (by simp [chk] at h), no_star rfl⟩
theorem pxs : ∀ es : List E, ∀ e ∈ es, PX p n S e
  | [] => fun e he => (by simp at he)
  | a :: es => fun e he => by
    rcases List.mem_cons.mp he with h | h
    · rw [h]; exact px a
    · exact pxs es e h
end
theorem se (e : E) : SE p n S e := (px e).1
theorem st (e : E) : ST p n S e := (px e).2.1
theorem ses (es : List E) : SEs p n S es := ses_of (pxs es)
end
end Ev

/-! Ev19: statements: the check, small ones. -/
namespace Ev
open PySem PySem.Spec L2
section
variable {K : Frag} {B : Bs} {F H F' H' : Hp} {σ : L2.St} {s : Env}
/-- a name's own list is written -/
theorem EnvR.write (en : EnvR K B F H σ s) {i : Nat} {x : Slot} {a : Addr} {es : List PV} {ys : List V} (hx : s[i]? = some x) (ox : isOwn x = true) (ha : σ[i]? = some (some (.ref a))) (r : RpAll K F ys es) : EnvR K B F (upd H a (.lst ys)) σ (s.set i (reSlot x (.list es))) := by
  have hF : F a = none := by
    have w := en.slot i x hx
    cases x with
    | emp => cases ox
    | frz d => cases ox
    | own d => obtain ⟨b, w1, w2, _⟩ := w; rw [ha] at w1; cases w1; exact w2
    | io d => obtain ⟨b, w1, _, w2, _⟩ := w; rw [ha] at w1; cases w1; exact w2
  have st : ∀ {b : Addr} {o : HO}, b ≠ a → H b = some o → upd H a (.lst ys) b = some o := fun n h => by rw [upd_ne n]; exact h
  have hi : i < s.length := (List.getElem?_eq_some_iff.mp hx).1
  refine ⟨fun b o h => st (fun z => ?_) (en.fh b o h), by simp [en.len], fun j y h => ?_, fun j k y z b g1 g2 o1 o2 e1 e2 => ?_, fun p hp => ?_, fun p hp j y h oy => ?_, en.tmpN, fun p hp => ?_, fun b o h nl => st (fun z => ?_) (en.keep b o h nl), en.fnew, en.fold⟩
  · rw [z, hF] at h; cases h
  · rcases set_get h with ⟨rfl, rfl, _⟩ | ⟨ne, h⟩
    · have w := en.slot j x hx
      cases x with
      | emp => cases ox
      | frz d => cases ox
      | own d =>
        obtain ⟨b, w1, w2, w3, w4⟩ := w
        rw [ha] at w1; cases w1
        exact ⟨a, ha, w2, w3, ys, upd_same, r⟩
      | io d =>
        obtain ⟨b, w1, w2, w3, w4⟩ := w
        rw [ha] at w1; cases w1
        exact ⟨a, ha, w2, w3, ys, upd_same, r⟩
    · have w := en.slot j y h
      cases y with
      | emp => trivial
      | frz d => exact w
      | own d =>
        obtain ⟨b, w1, w2, w3, w4⟩ := w
        have nb : b ≠ a := fun z => ne (en.apart j i _ _ a h hx rfl ox (by rw [w1, z]) ha)
        exact ⟨b, w1, w2, w3, w4.stay (Sub.refl F) fun o ho => st nb ho⟩
      | io d =>
        obtain ⟨b, w1, w2, w3, w4⟩ := w
        have nb : b ≠ a := fun z => ne (en.apart j i _ _ a h hx rfl ox (by rw [w1, z]) ha)
        exact ⟨b, w1, w2, w3, w4.stay (Sub.refl F) fun o ho => st nb ho⟩
  · have fixy : ∀ {j : Nat} {y : Slot}, (s.set i (reSlot x (.list es)))[j]? = some y → isOwn y = true → ∃ y', s[j]? = some y' ∧ isOwn y' = true := fun {j y} h o => by
      rcases set_get h with ⟨rfl, rfl, _⟩ | ⟨ne, h⟩
      · exact ⟨x, hx, ox⟩
      · exact ⟨y, h, o⟩
    obtain ⟨y', g1', o1'⟩ := fixy g1 o1
    obtain ⟨z', g2', o2'⟩ := fixy g2 o2
    exact en.apart j k y' z' b g1' g2' o1' o2' e1 e2
  · obtain ⟨g1, g2, g3⟩ := en.tmp p hp
    have nb : p.1 ≠ a := fun z => en.tmpA p hp i x hx ox (by rw [ha, z])
    exact ⟨g1, g2, g3.stay (Sub.refl F) fun o ho => st nb ho⟩
  · rcases set_get h with ⟨rfl, rfl, _⟩ | ⟨ne, h⟩
    · exact en.tmpA p hp j x hx ox
    · exact en.tmpA p hp j y h oy
  · obtain ⟨d, g1, g2⟩ := en.lent p hp
    by_cases e : p.1 = i
    · rw [e, hx] at g1
      cases g1
      exact ⟨.list es, by rw [e]; exact List.getElem?_set_self hi, g2⟩
    · exact ⟨d, by rw [List.getElem?_set_ne (Ne.symm e)]; exact g1, g2⟩
  · -- kept: not lent, not our own
    rw [z] at h nl
    have w := en.slot i x hx
    cases x with
    | emp => cases ox
    | frz d => cases ox
    | own d => obtain ⟨b, w1, w2, w3, _⟩ := w; rw [ha] at w1; cases w1; rw [w3] at h; cases h
    | io d => obtain ⟨b, w1, w2, _⟩ := w; rw [ha] at w1; cases w1; exact nl _ w2 rfl
theorem ownVal_inv {i : Nat} {d : PV} {s' : Env} (h : ownVal i s = .ok d s') : s' = s ∧ ∃ x, s[i]? = some x ∧ isOwn x = true ∧ slotVal x = some d := by
  unfold ownVal at h
  split at h
  · rename_i v hs; cases h; exact ⟨rfl, _, hs, rfl, rfl⟩
  · rename_i v hs; cases h; exact ⟨rfl, _, hs, rfl, rfl⟩
  · cases h
theorem setSlot_inv {i : Nat} {d : PV} {s' : Env} {x : Slot} (hx : s[i]? = some x) (h : setSlot i d s = .ok () s') : s' = s.set i (reSlot x d) := by
  unfold setSlot at h
  split at h
  · rename_i v hs; rw [hx] at hs; cases hs; cases h; rfl
  · rename_i v hs; rw [hx] at hs; cases hs; cases h; rfl
  · cases h
/-- an own list: where it stands -/
theorem EnvR.ownList (en : EnvR K B F H σ s) {i : Nat} {x : Slot} {ds : List PV} (hx : s[i]? = some x) (ox : isOwn x = true) (hd : slotVal x = some (.list ds)) : ∃ a vs, σ[i]? = some (some (.ref a)) ∧ H a = some (.lst vs) ∧ RpAll K F vs ds := by
  have w := en.slot i x hx
  cases x with
  | emp => cases ox
  | frz d => cases ox
  | own d =>
    cases hd
    obtain ⟨a, w1, _, _, vs, w4, w5⟩ := w
    exact ⟨a, vs, w1, w4, w5⟩
  | io d =>
    cases hd
    obtain ⟨a, w1, _, _, vs, w4, w5⟩ := w
    exact ⟨a, vs, w1, w4, w5⟩
end

/-! ### the check -/
abbrev Stm := Ev.S
def notComp : Expr → Bool
  | .ListComp .. => false
  | .SetComp .. => false
  | .DictComp .. => false
  | _ => true
def notSD : Expr → Bool
  | .SetComp .. => false
  | .DictComp .. => false
  | _ => true
def notTup : Expr → Bool
  | .Tuple .. => false
  | _ => true
def swB (sc : Scope) (y : Str) (py : Pos) : Expr → Bool
  | .ListComp _ _ s pos => decide (sc.names.lookup y = some .local) && (py.line == pos.line) && !(s.names.any fun (n, k) => n == y && (k == .local || k == .cell))
  | _ => false
def isLc : E → Bool
  | .lc .. => true
  | _ => false
def funK (sc : Scope) : Bool := decide (sc.kind = .function)
def augOk : Operator → Bool
  | .Add => true | .Sub => true | .Mult => true | .FloorDiv => true | .Mod => true
  | _ => false
def muNm : Mu → Str
  | .append => "append"
  | .extend => "extend"
def parB (S : Sx) (sc : Scope) (is : List Nat) (ts vs : List Expr) : Bool := match is, ts, vs with
  | [i, j], [.Name x px, .Name y py], [_, _] => decide (S.N[i]? = some x) && decide (S.N[j]? = some y) && decide (i ≠ j) && decide (x ≠ y) && decide (sc.names.lookup x = some .local) && decide (sc.names.lookup y = some .local) && (py.line == px.line) && !(vs.all (foldedForSure 8)) && !(vs.all (constantsAlone 8))
  | [i, j, l], [.Name x px, .Name y py, .Name z pz], [_, _, _] => decide (S.N[i]? = some x) && decide (S.N[j]? = some y) && decide (S.N[l]? = some z) && decide (i ≠ j) && decide (i ≠ l) && decide (j ≠ l) && decide (x ≠ y) && decide (x ≠ z) && decide (y ≠ z) && decide (sc.names.lookup x = some .local) && decide (sc.names.lookup y = some .local) && decide (sc.names.lookup z = some .local)
      && (py.line == px.line) && (pz.line == px.line) && !(vs.all (foldedForSure 8)) && !(vs.all (constantsAlone 8))
  | _, _, _ => false
/-- some target is no local name -/
def farN (sc : Scope) : Expr → Bool
  | .Name y _ => !(decide (sc.names.lookup y = some .local))
  | _ => true
def farTg (sc : Scope) : Expr → Bool
  | .Tuple ts _ _ => ts.any (farN sc)
  | _ => false
def tupVal : Expr → Bool
  | .Tuple vs _ _ => vs.all (foldedForSure 8)
  | _ => true
mutual
def chkS (S : Sx) (sc : Scope) : Stm → Stmt → Bool
  | .pass, x => match x with
    | .Pass _ => true
    | .Expr (.Constant (.str _) _ _) _ => true
    | _ => false
  | .ex e, x => match x with | .Expr v _ => chk S sc e v && notComp v | _ => false
  | .asg t e, x => match x with
    | .Assign [tg] v _ => chk S sc e v && (match t with
      | .name i => match tg with
        | .Name y py => decide (S.N[i]? = some y) && locB sc y && notSD v && (!(swB sc y py v) || (isLc e && funK sc))
        | _ => false
      | .tup ts => chkT S sc (fun _ => true) (.tup ts) tg && (tupVal v || farTg sc tg))
    | _ => false
  | .par is es, x => match x with
    | .Assign [.Tuple ts _ _] (.Tuple vs _ _) _ => parB S sc is ts vs && chks S sc es vs && vs.all notStar && funK sc
    | _ => false
  | .aug i op e, x => match x with
    | .AugAssign (.Name y _) o v _ => decide (o = op) && augOk op && decide (S.N[i]? = some y) && locB sc y && chk S sc e v
    | _ => false
  | .seti i k e, x => match x with
    | .Assign [.Subscript o ix _] v _ => chk S sc (.peek i) o && chk S sc k ix && chk S sc e v && notSlice ix
    | _ => false
  | .mut m i es, x => match x with
    | .Expr (.Call (.Attribute o nm apos) ys [] cpos) _ => decide (nm = muNm m) && chk S sc (.peek i) o && chks S sc es ys && ys.all notStar && baseOk o && decide (apos.endLine = cpos.line) && decide (ys.length = 1)
    | _ => false
  | .ret e, x => match x with | .Return (some v) _ => chk S sc e v | _ => false
  | .retN, x => match x with | .Return none _ => true | _ => false
  | .ite t a b, x => match x with | .If c p q _ => chk S sc t c && chkSs S sc a p && chkSs S sc b q | _ => false
  | .loop tg k its body, x => match x with
    | .For tg' it' body' [] _ => chkT S sc (fun _ => true) tg tg' && notSet it' && (match itArgs sc k tg' it' with | some ys => chks S sc its ys | none => false) && chkSs S sc body body'
    | _ => false
  | .whl t body, x => match x with | .While c body' [] _ => chk S sc t c && chkSs S sc body body' | _ => false
  | .brk, x => match x with | .Break _ => true | _ => false
  | .cont, x => match x with | .Continue _ => true | _ => false
  | .never, _ => true
def chkSs (S : Sx) (sc : Scope) : List Stm → List Stmt → Bool
  | [], xs => match xs with | [] => true | _ => false
  | s :: ss, xs => match xs with | x :: ys => chkS S sc s x && chkSs S sc ss ys | _ => false
end

/-! ### readings -/
def EndQ (K : Frag) (B : Bs) (D : Ends) (f : Flow) (F H : Hp) (σ : L2.St) (s : Env) : Prop := match f with
  | .next => D.nx σ H
  | .brk => D.bk σ H
  | .cont => D.ct σ H
  | .ret r => ∀ v, RvR K B F H σ s v r → D.rt v H
def tS (K : Frag) (c : Cf) (st : Stm) : TS := fun D σ H => ∃ B s f s', evS c st s = .ok f s' ∧ ∃ F, EnvR K B F H σ s ∧ ∀ σ' H' F', Sub F F' → EnvR K B F' H' σ' s' → EndQ K B D f F' H' σ' s'
def tSs (K : Frag) (c : Cf) (ss : List Stm) : TS := fun D σ H => ∃ B s f s', evSs c ss s = .ok f s' ∧ ∃ F, EnvR K B F H σ s ∧ ∀ σ' H' F', Sub F F' → EnvR K B F' H' σ' s' → EndQ K B D f F' H' σ' s'
theorem PS.imp {X : Cx} {x : Stmt} {t t' : TS} (h : PS X x t) (i : ∀ D σ H, t' D σ H → t D σ H) : PS X x t' := ⟨fun pins s σ H D I q => h.run pins s σ H D I (i _ _ _ q)⟩
theorem PSs.imp {X : Cx} {x : List Stmt} {t t' : TS} (h : PSs X x t) (i : ∀ D σ H, t' D σ H → t D σ H) : PSs X x t' := ⟨fun pins s σ H D I q => h.run pins s σ H D I (i _ _ _ q)⟩
structure XP (X : Cx) : Prop where
  pass : PassesOwn (model X.prog X.w) X.A X.env X.xe
  fn : ∀ x, X.fn x = true
def SS (p : Prg) (n : Nat) (S : Sx) (st : Stm) : Prop := ∀ (X : Cx) (x : Stmt), XC p n S X → XP X → chkS S X.env.scope st x = true → PS X x (tS X.K (p.cf n) st)
def SSs (p : Prg) (n : Nat) (S : Sx) (st : List Stm) : Prop := ∀ (X : Cx) (x : List Stmt), XC p n S X → XP X → chkSs S X.env.scope st x = true → PSs X x (tSs X.K (p.cf n) st)
section
variable {p : Prg} {n : Nat} {S : Sx} {K : Frag} {c : Cf}
theorem sss_nil : SSs p n S [] := fun X x c xp h => by
  cases x with
  | nil =>
    refine PSs.imp pss_nil fun D σ H q => ?_
    obtain ⟨B, s, f, s', hv, F, en, k⟩ := q
    obtain ⟨rfl, rfl⟩ := pure_inv hv
    exact k σ H F (Sub.refl F) en
  | cons y ys => simp [chkSs] at h
theorem sss_cons {a : Stm} {as : List Stm} (ha : SS p n S a) (hs : SSs p n S as) : SSs p n S (a :: as) := fun X x c xp h => by
  cases x with
  | nil => simp [chkSs] at h
  | cons y ys =>
    simp only [chkSs, Bool.and_eq_true] at h
    refine PSs.imp (pss_cons (ha X y c xp h.1) (hs X ys c xp h.2)) fun D σ H q => ?_
    obtain ⟨B, s, f, s', hv, F, en, k⟩ := q
    obtain ⟨f1, s1, g1, w1⟩ := bind_inv hv
    refine ⟨B, s, f1, s1, g1, F, en, fun σ' H' F' q1 e1 => ?_⟩
    cases f1 with
    | next => exact ⟨B, s1, f, s', w1, F', e1, fun σ2 H2 F2 q2 e2 => k σ2 H2 F2 (q1.trans q2) e2⟩
    | brk => obtain ⟨rfl, rfl⟩ := pure_inv w1; exact k σ' H' F' q1 e1
    | cont => obtain ⟨rfl, rfl⟩ := pure_inv w1; exact k σ' H' F' q1 e1
    | ret r => obtain ⟨rfl, rfl⟩ := pure_inv w1; exact k σ' H' F' q1 e1
theorem ss_pass : SS p n S .pass := fun X x c xp h => by
  simp only [chkS] at h
  have fin : ∀ D σ H, tS X.K (p.cf n) .pass D σ H → tNext D σ H := fun D σ H q => by
    obtain ⟨B, s, f, s', hv, F, en, k⟩ := q
    obtain ⟨rfl, rfl⟩ := pure_inv hv
    exact k σ H F (Sub.refl F) en
  split at h
  · exact PS.imp ps_pass fin
  · exact PS.imp ps_doc fin
  · cases h
theorem ss_brk : SS p n S .brk := fun X x c xp h => by
  simp only [chkS] at h
  split at h
  · refine PS.imp ps_break fun D σ H q => ?_
    obtain ⟨B, s, f, s', hv, F, en, k⟩ := q
    obtain ⟨rfl, rfl⟩ := pure_inv hv
    exact k σ H F (Sub.refl F) en
  · cases h
theorem ss_cont : SS p n S .cont := fun X x c xp h => by
  simp only [chkS] at h
  split at h
  · refine PS.imp ps_continue fun D σ H q => ?_
    obtain ⟨B, s, f, s', hv, F, en, k⟩ := q
    obtain ⟨rfl, rfl⟩ := pure_inv hv
    exact k σ H F (Sub.refl F) en
  · cases h
theorem ss_never : SS p n S .never := fun X x c xp h => by
  refine PS.imp ps_never fun D σ H q => ?_
  obtain ⟨B, s, f, s', hv, _⟩ := q
  cases hv
theorem ss_retN : SS p n S .retN := fun X x c xp h => by
  simp only [chkS] at h
  split at h
  · refine PS.imp ps_retN fun D σ H q => ?_
    obtain ⟨B, s, f, s', hv, F, en, k⟩ := q
    obtain ⟨rfl, rfl⟩ := pure_inv hv
    exact k σ H F (Sub.refl F) en .non .non
  · cases h
theorem ss_ret {e : E} : SS p n S (.ret e) := fun X x c xp h => by
  simp only [chkS] at h
  split at h
  · refine PS.imp (ps_ret (se e X _ c h)) fun D σ H q => ?_
    obtain ⟨B, s, f, s', hv, F, en, k⟩ := q
    obtain ⟨r, s1, g1, w1⟩ := bind_inv hv
    refine ⟨B, s, r, s1, g1, F, en, fun v H' F' q1 e1 rv => ?_⟩
    cases r with
    | frz d => obtain ⟨rfl, rfl⟩ := pure_inv w1; exact k σ H' F' q1 e1 v rv
    | own d => obtain ⟨rfl, rfl⟩ := pure_inv w1; exact k σ H' F' q1 e1 v rv
    | slot i => cases w1
  · cases h
theorem sw_none {v : Expr} {l : Nat} {env : PySem.Env} (h : notComp v = true) : swapsWith v none l env = pure false := by
  cases v <;> first | rfl | cases h
theorem sw_sub {v o i : Expr} {q : Pos} {l : Nat} {env : PySem.Env} : swapsWithSole [.Subscript o i q] v l env = pure false := by
  cases v <;> rfl
theorem sw_tup {v : Expr} {ts : List Expr} {k : Nat} {q : Pos} {l : Nat} {env : PySem.Env} : swapsWithSole [.Tuple ts k q] v l env = pure false := by
  cases v <;> rfl
theorem sw_name {v : Expr} {y : Str} {py : Pos} {l : Nat} {env : PySem.Env} (h : swB env.scope y py v = false) (hn : notSD v = true) : swapsWith v (some (.Name y py)) l env = pure false := by
  cases v <;> first | rfl | (cases hn; done) | skip
  rename_i elt gs sc pos
  unfold swapsWith
  show (pure (env.blockKind == .function && env.kindOf y == some .local && py.line == pos.line && !(sc.names.any fun (n, k) => n == y && (k == .local || k == .cell))) : Sem Bool) = pure false
  congr 1
  have hk : (env.kindOf y == some .local) = decide (env.scope.names.lookup y = some .local) := by
    unfold Env.kindOf
    cases env.scope.names.lookup y with
    | none => rfl
    | some k => cases k <;> rfl
  rw [hk, Bool.and_assoc, Bool.and_assoc, ← Bool.and_assoc (decide _)]
  show (env.blockKind == .function && swB env.scope y py (.ListComp elt gs sc pos)) = false
  rw [h, Bool.and_false]
theorem ss_ex {e : E} : SS p n S (.ex e) := fun X x c xp h => by
  simp only [chkS] at h
  split at h
  · rw [Bool.and_eq_true] at h
    refine PS.imp (ps_expr (se e X _ c h.1) (sw_none h.2)) fun D σ H q => ?_
    obtain ⟨B, s, f, s', hv, F, en, k⟩ := q
    obtain ⟨r, s1, g1, w1⟩ := bind_inv hv
    obtain ⟨rfl, rfl⟩ := pure_inv w1
    exact ⟨B, s, r, s', g1, F, en, fun v H' F' q1 e1 rv => k σ H' F' q1 e1⟩
  · cases h
theorem ss_ite {t : E} {a b : List Stm} (ha : SSs p n S a) (hb : SSs p n S b) : SS p n S (.ite t a b) := fun X x c xp h => by
  simp only [chkS] at h
  split at h
  case h_2 => cases h
  simp only [Bool.and_eq_true] at h
  obtain ⟨⟨h1, h2⟩, h3⟩ := h
  refine PS.imp (ps_if (st t X _ c h1) (ha X _ c xp h2) (hb X _ c xp h3)) fun D σ H q => ?_
  obtain ⟨B, s, f, s', hv, F, en, k⟩ := q
  obtain ⟨r, s1, g1, w1⟩ := bind_inv hv
  obtain ⟨u, s2, g2, w2⟩ := bind_inv w1
  obtain ⟨b1, s3, g3, w3⟩ := bind_inv w2
  obtain ⟨g3', e3⟩ := opt_inv g3
  have e2 := opd_same g2
  subst e2
  subst e3
  refine tUT_good g1 g2 g3' en fun H' F' q1 e1 => ?_
  cases b1 with
  | true =>
    rw [if_pos rfl] at w3
    rw [if_pos rfl]
    exact ⟨B, _, f, s', w3, F', e1, fun σ2 H2 F2 q2 e2 => k σ2 H2 F2 (q1.trans q2) e2⟩
  | false =>
    rw [if_neg Bool.false_ne_true] at w3
    rw [if_neg Bool.false_ne_true]
    exact ⟨B, _, f, s', w3, F', e1, fun σ2 H2 F2 q2 e2 => k σ2 H2 F2 (q1.trans q2) e2⟩
end
end Ev

/-! Ev20: stores. -/
namespace Ev
open PySem PySem.Spec L2
section
variable {p : Prg} {n : Nat} {S : Sx} {K : Frag} {c : Cf}
theorem look_val {B : Bs} {F H : Hp} {σ : L2.St} {s s' : Env} {i : Nat} {a : Int} (en : EnvR K B F H σ s) (h : look i s = .ok (.int a) s') : s' = s ∧ σ[i]? = some (some (.int a)) := by
  obtain ⟨h1, h2⟩ := opt_inv h
  refine ⟨h2, ?_⟩
  cases hs : s[i]? with
  | none => rw [hs] at h1; cases h1
  | some x =>
    rw [hs] at h1
    have w := en.slot i x hs
    cases x with
    | emp => cases h1
    | frz d => cases h1; obtain ⟨v, w1, w2⟩ := w; cases w2; exact w1
    | own d => cases h1; obtain ⟨b, w1, w2, w3, w4⟩ := w; exact w4.elim
    | io d => cases h1; obtain ⟨b, w1, w2, w3, w4⟩ := w; exact w4.elim
def augR (op : Operator) : TIp := fun x y H Q => ∃ a b z, x = .int a ∧ y = .int b ∧ binOp op (.int a) (.int b) = some (.frz (.int z)) ∧ Q (.int z) H
theorem ip_all {X : Cx} {op : Operator} (ho : augOk op = true) : PIp X op (augR op) := by
  intro pins s σ H x y v u Q I r1 r2 h
  obtain ⟨a, b, z, rfl, rfl, hz, q⟩ := h
  cases op <;> first | (cases ho; done) | skip
  · injection hz with hz; injection hz with hz; injection hz with hz
    subst hz
    exact iop_add pins s σ H _ _ v u Q I r1 r2 ⟨a, b, rfl, rfl, q⟩
  · injection hz with hz; injection hz with hz; injection hz with hz
    subst hz
    exact iop_sub pins s σ H _ _ v u Q I r1 r2 ⟨a, b, rfl, rfl, q⟩
  · simp only [binOp] at hz
    split at hz
    · rename_i hm
      injection hz with hz; injection hz with hz; injection hz with hz
      subst hz
      obtain ⟨t, rfl⟩ := r1
      obtain ⟨t', rfl⟩ := r2
      exact PyProof.Rows.imul_int ⟨.int _, H, I.tok _, ⟨_, rfl⟩, q⟩ (mul_ok hm)
    · cases hz
  · simp only [binOp] at hz
    split at hz
    · rename_i hm
      injection hz with hz; injection hz with hz; injection hz with hz
      subst hz
      exact iop_mod pins s σ H _ _ v u Q I r1 r2 ⟨a, b, rfl, rfl, hm, q⟩
    · cases hz
  · simp only [binOp] at hz
    split at hz
    · rename_i hm
      injection hz with hz; injection hz with hz; injection hz with hz
      subst hz
      exact iop_fdivW pins s σ H _ _ v u Q I r1 r2 ⟨a, b, rfl, rfl, wide_div (b := 4000) hm.1 (by have := hm.1; have := hm.2; omega) (by decide) (by decide), q⟩
    · cases hz
theorem aug_frz {op : Operator} {a b : Int} {z : Rv} (ho : augOk op = true) (h : binOp op (.int a) (.int b) = some z) : ∃ w, z = .frz (.int w) := by
  cases op <;> first | (cases ho; done) | skip
  all_goals
    simp only [binOp] at h
    try split at h
    all_goals first
      | (cases h; done)
      | (injection h with h; exact ⟨_, h.symm⟩)
theorem ss_aug {i : Nat} {op : Operator} {e : E} : SS p n S (.aug i op e) := fun X x c xp h => by
  simp only [chkS] at h
  split at h
  case h_2 => cases h
  simp only [Bool.and_eq_true, decide_eq_true_eq] at h
  obtain ⟨⟨⟨⟨rfl, h1⟩, h2⟩, h3⟩, h4⟩ := h
  refine PS.imp (ps_aug c.nd (by rw [c.hN]; exact h2) (locB_ok h3) (se e X _ c h4) (ip_all h1) (.inl (xp.fn _))) fun D σ H q => ?_
  obtain ⟨B, s, f, s', hv, F, en, k⟩ := q
  obtain ⟨u, s0, g0, w0⟩ := bind_inv hv
  obtain ⟨r, s1, g1, w1⟩ := bind_inv w0
  obtain ⟨v, s2, g2, w2⟩ := bind_inv w1
  obtain ⟨z, s3, g3, w3⟩ := bind_inv w2
  obtain ⟨g3', e3⟩ := opt_inv g3
  obtain ⟨_, s4, g4, w4⟩ := bind_inv w3
  obtain ⟨rfl, rfl⟩ := pure_inv w4
  have e2 := opd_same g2
  subst e2
  subst e3
  split at g3'
  case h_2 => cases g3'
  rename_i a b
  obtain ⟨e0, hx⟩ := look_val en g0
  subst e0
  refine ⟨.int a, hx, tU_good g1 en fun y H' F' q1 e1 ry => ?_⟩
  obtain ⟨_, ty⟩ := opd_ok e1 ry g2
  obtain rfl := ty.int
  obtain ⟨w, rfl⟩ := aug_frz h1 g3'
  exact ⟨a, b, w, rfl, rfl, g3', k _ H' F' q1 (store_env e1 g4 (.int _))⟩
theorem as_sub {o i : Expr} {q : Pos} {env : PySem.Env} (h : notSlice i = true) : ∀ v, assign (.Subscript o i q) env v = (do
      let ov ← holding [v] (eval o env)
      let iv ← holding [v, ov] (eval i env)
      standAt q
      holding [v, ov, iv] (setItem ov iv v)
      release [v, ov, iv] []) := by
  intro v
  cases i <;> first | rfl | cases h
theorem ixN_eq {k : Nat} {i : Int} {j : Nat} (h : Ev.ixN k i = some j) : L2.ixN k i = some j := by
  unfold Ev.ixN at h
  unfold L2.ixN
  first | exact h | (split at h <;> split at h <;> simp_all)
theorem peek_own {B : Bs} {F H : Hp} {σ : L2.St} {s : Env} {i : Nat} {x : Slot} (hx : s[i]? = some x) (ox : isOwn x = true) : ev c (.peek i) s = .ok (.slot i) s := by
  show mPeek i s = _
  unfold mPeek
  rw [hx]
  cases x <;> first | rfl | cases ox
theorem ss_seti {i : Nat} {k e : E} : SS p n S (.seti i k e) := fun X x c xp h => by
  simp only [chkS] at h
  split at h
  case h_2 => cases h
  rename_i o ix tpos v pos
  simp only [Bool.and_eq_true] at h
  obtain ⟨⟨⟨h1, h2⟩, h3⟩, h4⟩ := h
  refine PS.imp (ps_asg (se e X _ c h3) (pg_sub (se (.peek i) X _ c h1) (se k X _ c h2) set_list (as_sub h4)) sw_sub (by cases v <;> rfl) rfl) fun D σ H q => ?_
  obtain ⟨B, s, f, s', hv, F, en, kk⟩ := q
  obtain ⟨r, s1, g1, w1⟩ := bind_inv hv
  obtain ⟨d, s2, g2, w2⟩ := bind_inv w1
  obtain ⟨_, s3, g3, w3⟩ := bind_inv w2
  obtain ⟨qr, s4, g4, w4⟩ := bind_inv w3
  obtain ⟨j, s5, g5, w5⟩ := bind_inv w4
  obtain ⟨u, s6, g6, w6⟩ := bind_inv w5
  obtain ⟨w, s7, g7, w7⟩ := bind_inv w6
  obtain ⟨g7', e7⟩ := opt_inv g7
  obtain ⟨_, s8, g8, w8⟩ := bind_inv w7
  obtain ⟨rfl, rfl⟩ := pure_inv w8
  have e2 := fz_same g2
  subst e2
  obtain ⟨e3, x0, hx0, ox0, _⟩ := ownVal_inv g3
  subst e3
  have e5 := opd_same g5
  subst e5
  obtain ⟨e6, x1, hx1, ox1, hd1⟩ := ownVal_inv g6
  subst e6
  subst e7
  refine tU_good g1 en fun vv H1 F1 q1 e1 rv => ?_
  obtain ⟨_, rd⟩ := fz_ok rv g2
  refine ⟨B, _, .slot i, _, peek_own (B := B) (F := F) (H := H) (σ := σ) hx0 ox0, F1, e1, fun ov H2 F2 q2 e2 ro => ?_⟩
  refine tU_good g4 e2 fun iv H3 F3 q3 e3 ri => ?_
  obtain ⟨_, ti⟩ := opd_ok e3 ri g5
  unfold setOp at g7'
  split at g7'
  case h_2 => cases g7'
  rename_i ds kk2
  cases hix : Ev.ixN ds.length kk2 with
  | none => rw [hix] at g7'; cases g7'
  | some j2 =>
    rw [hix] at g7'
    injection g7' with g7'
    subst g7'
    obtain rfl := ti.int
    obtain ⟨a, vs, a1, a2, a3⟩ := e3.ownList hx1 ox1 hd1
    have ro : σ[i]? = some (some ov) := ro
    rw [a1] at ro
    injection ro with ro
    injection ro with ro
    subst ro
    refine ⟨a, vs, kk2, j2, rfl, rfl, a2, by rw [a3.length]; exact ixN_eq hix, ?_⟩
    have e8 := setSlot_inv hx1 g8
    subst e8
    exact kk σ _ F3 (q1.trans (q2.trans q3)) (e3.write hx1 ox1 a1 (RpAll.set (Rp.sub (q2.trans q3) rd) j2 a3))
end
end Ev

/-! Ev21: further statements. -/
namespace Ev
open PySem PySem.Spec L2
section
variable {p : Prg} {n : Nat} {S : Sx} {K : Frag} {c : Cf}
def rMu : Mu → V → List V → Hp → VK → Prop
  | .append => rAppend
  | .extend => rExtL
theorem pe_mu {X : Cx} {m : Mu} {nm : Str} {o e : Expr} {apos cpos : Pos} {to : TE} {t : TA} (hn : nm = muNm m) (ho : PE X o to) (ha : PA X [e] t)
    (hb : baseOk o = true) (hl : apos.endLine = cpos.line) (hs : notStar e = true) : PE X (.Call (.Attribute o nm apos) [e] [] cpos) (tBM X.K "list" (rMu m) to t) := by
  subst hn
  cases m with
  | append => exact pe_bm PySem.F.plainAttrs_list PySem.F.slot_list_append PySem.F.type_list_append mt_append ho ha (baseOk_base hb) (baseKw hs) (by rw [hl]; exact beq_self_eq_true _) (star_cons hs) (star_plain (by rfl))
  | extend => exact pe_bm PySem.F.plainAttrs_list PySem.F.slot_list_extend PySem.F.type_list_extend mt_extL ho ha (baseOk_base hb) (baseKw hs) (by rw [hl]; exact beq_self_eq_true _) (star_cons hs) (star_plain (by rfl))
theorem one_all {y : Expr} (h : [y].all notStar = true) : notStar y = true := by
  rw [List.all_cons, Bool.and_eq_true] at h
  exact h.1
theorem ss_mut {m : Mu} {i : Nat} {es : List E} : SS p n S (.mut m i es) := fun X x c xp h => by
  simp only [chkS] at h
  split at h
  case h_2 => cases h
  rename_i o nm apos ys cpos pos
  simp only [Bool.and_eq_true, decide_eq_true_eq] at h
  obtain ⟨⟨⟨⟨⟨⟨h1, h2⟩, h3⟩, h4⟩, h5⟩, h6⟩, h7⟩ := h
  match ys, h7, h3, h4 with
  | [y], _, h3, h4 =>
    refine PS.imp (ps_expr (pe_mu h1 (se (.peek i) X _ c h2) (ses es X _ c h3 h4) h5 h6 (one_all h4)) (sw_none rfl)) fun D σ H q => ?_
    obtain ⟨B, s, f, s', hv, F, en, k⟩ := q
    obtain ⟨u0, s0, g0, w0⟩ := bind_inv hv
    obtain ⟨e0, x0, hx0, ox0, hd0⟩ := ownVal_inv g0
    subst e0
    split at w0
    case isFalse => cases w0
    rename_i hl0
    obtain ⟨rs, s1, g1, w1⟩ := bind_inv w0
    obtain ⟨ds, s2, g2, w2⟩ := bind_inv w1
    obtain ⟨u, s3, g3, w3⟩ := bind_inv w2
    obtain ⟨w, s4, g4, w4⟩ := bind_inv w3
    obtain ⟨g4', e4⟩ := opt_inv g4
    obtain ⟨_, s5, g5, w5⟩ := bind_inv w4
    obtain ⟨rfl, rfl⟩ := pure_inv w5
    have e2 : s2 = s1 := by
      clear w0 w1 w2 w3 w4 g3 g4 g5 e4
      revert g2
      generalize s1 = t
      intro g2
      exact fzs_same g2
    subst e2
    obtain ⟨e3, x1, hx1, ox1, hd1⟩ := ownVal_inv g3
    subst e3
    subst e4
    refine ⟨B, _, .slot i, _, peek_own (F := F) (H := H) (σ := σ) (B := B) hx0 ox0, F, en, fun ov H1 F1 q1 e1 ro => ?_⟩
    have ro : σ[i]? = some (some ov) := ro
    cases u0 with
    | list ds0 =>
      obtain ⟨a, vs0, a1, a2, a3⟩ := e1.ownList hx0 ox0 hd0
      rw [a1] at ro
      injection ro with ro
      injection ro with ro
      subst ro
      refine ⟨.inl ⟨rfl, vs0, .inl (.inl a2)⟩, B, _, rs, _, g1, F1, e1, fun xs H2 F2 q2 e2 rv => ?_⟩
      obtain ⟨_, tv⟩ := fzs_ok rv g2
      have hend : ∀ {es2 : List PV} {ys2 : List V}, w = .list es2 → RpAll X.K F2 ys2 es2 → D.nx σ (upd H2 a (.lst ys2)) := fun {es2 ys2} hw hr => by
        have e8 := setSlot_inv hx1 g5
        rw [hw] at e8
        subst e8
        exact k σ _ F2 (q1.trans q2) (e2.write hx1 ox1 a1 hr)
      have hown : ∀ {es2 : List PV}, u = .list es2 → ∃ vs, H2 a = some (.lst vs) ∧ RpAll X.K F2 vs es2 := fun {es2} hu => by
        rw [hu] at hd1
        obtain ⟨a', vs', b1, b2, b3⟩ := e2.ownList hx1 ox1 hd1
        rw [a1] at b1
        injection b1 with b1
        injection b1 with b1
        injection b1 with b1
        subst b1
        exact ⟨vs', b2, b3⟩
      unfold muOp at g4'
      split at g4'
      · rename_i zs y2
        split at g4'
        · rename_i hz
          injection g4' with g4'
          obtain ⟨vs, b2, b3⟩ := hown rfl
          obtain ⟨yv, ws, rfl, r5, r6⟩ := tv.cons_inv
          obtain rfl := r6.nil_inv
          exact ⟨a, vs, yv, rfl, rfl, b2, by rw [b3.length, ← lim_eq]; exact hz, hend g4'.symm (b3.append (.cons r5 .nil))⟩
        · cases g4'
      · rename_i zs y2
        split at g4'
        · rename_i hz
          injection g4' with g4'
          obtain ⟨vs, b2, b3⟩ := hown rfl
          obtain ⟨yv, ws, rfl, r5, r6⟩ := tv.cons_inv
          obtain rfl := r6.nil_inv
          obtain ⟨b, vs5, rfl, hb, rb⟩ := (Rp.top e2.fh r5).lst
          exact ⟨a, b, vs, vs5, rfl, rfl, b2, hb, by rw [b3.length, rb.length, ← lim_eq]; exact hz, hend g4'.symm (b3.append rb)⟩
        · cases g4'
      · cases g4'
    | _ => cases hl0
/-! ### names stored -/
theorem sw_stores {v : Expr} {ts : List Expr} {k : Nat} {q : Pos} {env : PySem.Env} (h : tupVal v = true) : swappedStores [.Tuple ts k q] v env = pure none := by
  cases v <;> first | rfl | skip
  rename_i vs k2 q2
  have h : vs.all (foldedForSure 8) = true := h
  unfold swappedStores
  dsimp only
  repeat' split
  all_goals first
    | rfl
    | (rename_i hh; exact absurd h hh)
    | simp_all
theorem far_len {env : PySem.Env} {l : Nat} : ∀ {ts : List Expr}, ts.any (farN env.scope) = true → (ts.filterMap fun | .Name id pos => if env.kindOf id == some .local && pos.line == l then some id else none | _ => none).length ≠ ts.length := fun {ts} h => by
  apply Nat.ne_of_lt
  induction ts with
  | nil => cases h
  | cons t ts ih =>
    rw [List.any_cons, Bool.or_eq_true] at h
    have le := List.length_filterMap_le (fun x => match x with | Expr.Name id pos => if env.kindOf id == some .local && pos.line == l then some id else none | _ => none) ts
    rw [List.filterMap_cons]
    split
    · rw [List.length_cons]; omega
    · rename_i b hb
      rw [List.length_cons, List.length_cons]
      rcases h with h | h
      · exfalso
        cases t <;> first | (cases hb; done) | skip
        rename_i y q
        simp only at hb
        split at hb
        · rename_i hk
          simp only [Bool.and_eq_true] at hk
          have h : (!(decide (env.scope.names.lookup y = some .local))) = true := h
          have hk := hk.1
          unfold Env.kindOf at hk
          have : env.scope.names.lookup y = some .local := by
            cases hl : env.scope.names.lookup y with
            | none => rw [hl] at hk; cases hk
            | some k => rw [hl] at hk; cases k <;> first | rfl | cases hk
          rw [this] at h
          simp at h
        · cases hb
      · have := ih h; omega
theorem sw_stores' {v : Expr} {ts : List Expr} {k : Nat} {q : Pos} {env : PySem.Env} (h : (tupVal v || farTg env.scope (.Tuple ts k q)) = true) : swappedStores [.Tuple ts k q] v env = pure none := by
  rw [Bool.or_eq_true] at h
  rcases h with h | h
  · exact sw_stores h
  · cases v <;> first | rfl | skip
    rename_i vs k2 q2
    have h : ts.any (farN env.scope) = true := h
    have hn := far_len (l := (Option.map (fun x => x.pos.line) ts.head?).getD 0) h
    unfold swappedStores
    dsimp only
    repeat' split
    all_goals first
      | rfl
      | (exfalso; rename_i hh; simp only [Bool.or_eq_true, bne_iff_ne, ne_eq, not_or, Classical.not_not] at hh; exact hn hh.1)
      | (exfalso; rename_i hh _; simp only [Bool.or_eq_true, bne_iff_ne, ne_eq, not_or, Classical.not_not] at hh; exact hn hh.1)
      | (exfalso; rename_i hh _ _; simp only [Bool.or_eq_true, bne_iff_ne, ne_eq, not_or, Classical.not_not] at hh; exact hn hh.1)
theorem tg_tup_shape {ts : List Tg} {sc : Scope} {own : Str → Bool} {x : Expr} (h : chkT S sc own (.tup ts) x = true) : ∃ xs k q, x = .Tuple xs k q := by
  simp only [chkT] at h
  split at h
  · exact ⟨_, _, _, rfl⟩
  · cases h
theorem ss_asg {t : Tg} {e : E} : SS p n S (.asg t e) := fun X x c xp h => by
  simp only [chkS] at h
  split at h
  case h_2 => cases h
  rename_i tg v pos
  rw [Bool.and_eq_true] at h
  obtain ⟨h1, h2⟩ := h
  cases t with
  | name i =>
    simp only at h2
    split at h2
    case h_2 => cases h2
    rename_i y py
    simp only [Bool.and_eq_true, decide_eq_true_eq, Bool.or_eq_true, Bool.not_eq_true'] at h2
    obtain ⟨⟨⟨h3, h4⟩, h5⟩, h6⟩ := h2
    have fin : ∀ (D : Ends) (σ : L2.St) (H : Hp), tS X.K (p.cf n) (.asg (.name i) e) D σ H → tU X.K (p.cf n) e σ H fun x H1 => gName i x σ H1 D.nx := fun D σ H q => by
      obtain ⟨B, s, f, s', hv, F, en, k⟩ := q
      obtain ⟨r, s1, g1, w1⟩ := bind_inv hv
      obtain ⟨_, s2, g2, w2⟩ := bind_inv w1
      obtain ⟨rfl, rfl⟩ := pure_inv w2
      exact ⟨B, s, r, s1, g1, F, en, fun v H' F' q1 e1 rv => k _ H' F' q1 (store_env e1 g2 rv)⟩
    by_cases hs : swB X.env.scope y py v = false
    · exact PS.imp (ps_set c.nd (by rw [c.hN]; exact h3) (locB_ok h4) (se e X _ c h1) (sw_name hs h5) (.inl (xp.fn _))) fin
    · rcases h6 with h6 | h6
      · exact absurd h6 hs
      · obtain ⟨h6, h7⟩ := h6
        cases e <;> first | (cases h6; done) | skip
        rename_i own elt tg k its ifs
        obtain ⟨elt', tg', it', ifs', scope, q, wi, g, tt, te, rfl, b1, b2, b3, b4, b5, b6, b7⟩ := lc_parts (se elt) (fun e he => se e) (ses its) (fun e he => st e) c h1
        have hs : swB X.env.scope y py (.ListComp elt' [⟨tg', it', ifs', 0⟩] scope q) = true := by simpa using hs
        simp only [swB, Bool.and_eq_true, Bool.not_eq_true', decide_eq_true_eq] at hs
        obtain ⟨⟨c1, c2⟩, c3⟩ := hs
        exact PS.imp (ps_setLc c.calm c.nd (by rw [c.hN]; exact h3) c1 (sw_true (of_decide_eq_true h7) c1 c2 c3) b1 b2 b3 b4 b5 (notSet_folded b6)) fun D σ H q => b7 σ H _ (fin D σ H q)
  | tup ts =>
    simp only [Bool.and_eq_true] at h2
    obtain ⟨xs, k, q, rfl⟩ := tg_tup_shape h2.1
    refine PS.imp (ps_asg (se e X _ c h1) (sg_tg (.tup ts) c ⟨fun x _ => xp.fn x⟩ h2.1) sw_tup (sw_stores' h2.2) rfl) fun D σ H q => ?_
    obtain ⟨B, s, f, s', hv, F, en, k⟩ := q
    obtain ⟨r, s1, g1, w1⟩ := bind_inv hv
    obtain ⟨d, s2, g2, w2⟩ := bind_inv w1
    obtain ⟨_, s3, g3, w3⟩ := bind_inv w2
    obtain ⟨rfl, rfl⟩ := pure_inv w3
    have e2 := fz_same g2
    subst e2
    refine tU_good g1 en fun v H' F' q1 e1 rv => ?_
    obtain ⟨_, rd⟩ := fz_ok rv g2
    exact ⟨B, F', _, d, s', e1, rd, g3, fun σ2 e4 _ _ => k σ2 H' F' q1 e4⟩
end
end Ev

/-! Ev22: several names at once, loops. -/
namespace Ev
open PySem PySem.Spec L2
section
variable {p : Prg} {n : Nat} {S : Sx} {K : Frag} {c : Cf}
/-- results at hand, the new ones held -/
inductive Held (K : Frag) (F : Hp) : Bs → List V → List Rv → Bs → Prop
  | nil {B : Bs} : Held K F B [] [] B
  | frz {B B' : Bs} {v : V} {d : PV} {vs : List V} {rs : List Rv} : Rp K F v d → Held K F B vs rs B' → Held K F B (v :: vs) (.frz d :: rs) B'
  | own {B B' : Bs} {a : Addr} {d : PV} {vs : List V} {rs : List Rv} : Held K F (B.with a d) vs rs B' → Held K F B (.ref a :: vs) (.own d :: rs) B'
def tP (K : Frag) (c : Cf) (es : List E) : TA := fun σ H Q => ∃ B s rs s', evPar c es s = .ok rs s' ∧ ∃ F, EnvR K B F H σ s ∧ ∀ vs H' F' B', Sub F F' → EnvR K B' F' H' σ s' → Held K F' B vs rs B' → Q vs H'
theorem sp_all : ∀ {es : List E} {X : Cx} {xs : List Expr}, XC p n S X → chks S X.env.scope es xs = true → xs.all notStar = true → PA X xs (tP X.K (p.cf n) es)
  | [], X, xs, c, h, hn => by
    cases xs with
    | nil =>
      refine PA.imp pa_nil fun σ H Q q => ?_
      obtain ⟨B, s, rs, s', hv, F, en, k⟩ := q
      obtain ⟨rfl, rfl⟩ := pure_inv hv
      exact k [] H F B (Sub.refl F) en .nil
    | cons y ys => simp [chks] at h
  | e :: es, X, xs, c, h, hn => by
    cases xs with
    | nil => simp [chks] at h
    | cons y ys =>
      simp only [chks, Bool.and_eq_true] at h
      rw [List.all_cons, Bool.and_eq_true] at hn
      refine PA.imp (pa_cons (se e X _ c h.1) (sp_all c h.2 hn.2) (star_cons hn.1)) fun σ H Q q => ?_
      obtain ⟨B, s, rs, s', hv, F, en, k⟩ := q
      obtain ⟨r1, s1, g1, w1⟩ := bind_inv hv
      refine ⟨B, s, r1, s1, g1, F, en, fun v H1 F1 q1 e1 rv => ?_⟩
      cases r1 with
      | slot i => cases w1
      | frz d =>
        obtain ⟨rs1, s2, g2, w2⟩ := bind_inv w1
        obtain ⟨rfl, rfl⟩ := pure_inv w2
        exact ⟨B, s1, rs1, _, g2, F1, e1, fun vs H2 F2 B2 q2 e2 hl => k (v :: vs) H2 F2 B2 (q1.trans q2) e2 (.frz (Rp.sub q2 rv) hl)⟩
      | own d =>
        obtain ⟨rs1, s2, g2, w2⟩ := bind_inv w1
        obtain ⟨rfl, rfl⟩ := pure_inv w2
        have rv0 := rv
        obtain ⟨a, rfl, _⟩ := rv0
        exact ⟨B.with a d, s1, rs1, _, g2, F1, e1.hold rv, fun vs H2 F2 B2 q2 e2 hl => k (.ref a :: vs) H2 F2 B2 (q1.trans q2) e2 (.own hl)⟩
/-- stored from the right -/
def setsR : L2.St → List Nat → List V → L2.St
  | σ, i :: is, v :: vs => (setsR σ is vs).set i (some v)
  | σ, _, _ => σ
theorem storeAll_ok {F H : Hp} {B B' : Bs} {vs : List V} {rs : List Rv} (hl : Held K F B vs rs B') : ∀ {is : List Nat} {σ : L2.St} {s s' : Env}, EnvR K B' F H σ s → storeAll is rs s = .ok () s' → EnvR K B F H (setsR σ is vs) s' := by
  induction hl with
  | nil =>
    intro is σ s s' en h
    cases is with
    | nil => obtain ⟨_, rfl⟩ := pure_inv h; exact en
    | cons i is => cases h
  | frz rd hl ih =>
    intro is σ s s' en h
    cases is with
    | nil => cases h
    | cons i is =>
      obtain ⟨_, s1, g1, w1⟩ := bind_inv h
      exact store_env (ih en g1) w1 rd
  | own hl ih =>
    intro is σ s s' en h
    cases is with
    | nil => cases h
    | cons i is =>
      obtain ⟨_, s1, g1, w1⟩ := bind_inv h
      obtain ⟨e2, r2⟩ := (ih en g1).unhold
      exact store_env e2 w1 r2
theorem kind_loc {env : PySem.Env} {x : Str} (h : env.scope.names.lookup x = some .local) : (env.kindOf x == some .local) = true := by
  unfold Env.kindOf
  rw [h]
  rfl
theorem blk_fun {env : PySem.Env} (h : funK env.scope = true) : (env.blockKind != .function) = false := by
  have h : env.scope.kind = .function := of_decide_eq_true h
  unfold Env.blockKind
  rw [h]
  rfl
theorem any_star {vs : List Expr} (h : vs.all notStar = true) : (vs.any fun | .Starred .. => true | _ => false) = false := by
  induction vs with
  | nil => rfl
  | cons v vs ih =>
    rw [List.all_cons, Bool.and_eq_true] at h
    rw [List.any_cons, ih h.2, Bool.or_false]
    cases v <;> first | rfl | cases h.1
theorem swap2 {x y : Str} {px py pt pv : Pos} {a b : Expr} {k1 k2 : Nat} {env : PySem.Env} (hf : funK env.scope = true) (hx : env.scope.names.lookup x = some .local) (hy : env.scope.names.lookup y = some .local) (hl : (py.line == px.line) = true) (hxy : x ≠ y)
    (hn : [a, b].all notStar = true) (h1 : [a, b].all (foldedForSure 8) = false) (h2 : [a, b].all (constantsAlone 8) = false) : swappedStores [.Tuple [.Name x px, .Name y py] k1 pt] (.Tuple [a, b] k2 pv) env = pure (some [x, y]) := by
  unfold swappedStores
  have hd : [x, y].eraseDups.length = 2 := by
    have e1 : (y == x) = false := beq_eq_false_iff_ne.mpr hxy.symm
    simp [List.eraseDups, List.eraseDupsBy, List.eraseDupsBy.loop, e1]
  simp only [List.length_cons, List.length_nil, List.filterMap_cons, List.filterMap_nil, kind_loc hx, kind_loc hy, any_star hn, blk_fun hf, h1, h2, List.head?_cons, Option.map_some, Option.getD_some, Expr.pos, hl, beq_self_eq_true, Bool.and_self, if_true, hd]
  rw [if_neg (by decide)]
  split
  · rename_i hh
    exact absurd ((any_star hn).symm.trans hh) Bool.false_ne_true
  · rw [if_neg (by decide), if_neg Bool.false_ne_true, if_neg Bool.false_ne_true]
theorem swap3 {x y z : Str} {px py pz pt pv : Pos} {a b d : Expr} {k1 k2 : Nat} {env : PySem.Env} (hf : funK env.scope = true) (hx : env.scope.names.lookup x = some .local) (hy : env.scope.names.lookup y = some .local) (hz : env.scope.names.lookup z = some .local)
    (hl : (py.line == px.line) = true) (hl2 : (pz.line == px.line) = true) (hxy : x ≠ y) (hxz : x ≠ z) (hyz : y ≠ z)
    (hn : [a, b, d].all notStar = true) (h1 : [a, b, d].all (foldedForSure 8) = false) (h2 : [a, b, d].all (constantsAlone 8) = false) : swappedStores [.Tuple [.Name x px, .Name y py, .Name z pz] k1 pt] (.Tuple [a, b, d] k2 pv) env = pure (some [x, y, z]) := by
  unfold swappedStores
  have hd : [x, y, z].eraseDups.length = 3 := by
    have e1 : (y == x) = false := beq_eq_false_iff_ne.mpr hxy.symm
    have e2 : (z == x) = false := beq_eq_false_iff_ne.mpr hxz.symm
    have e3 : (z == y) = false := beq_eq_false_iff_ne.mpr hyz.symm
    simp [List.eraseDups, List.eraseDupsBy, List.eraseDupsBy.loop, e1, e2, e3]
  simp only [List.length_cons, List.length_nil, List.filterMap_cons, List.filterMap_nil, kind_loc hx, kind_loc hy, kind_loc hz, any_star hn, blk_fun hf, h1, h2, List.head?_cons, Option.map_some, Option.getD_some, Expr.pos, hl, hl2, beq_self_eq_true, Bool.and_self, if_true, hd]
  rw [if_neg (by decide)]
  split
  · rename_i hh
    exact absurd ((any_star hn).symm.trans hh) Bool.false_ne_true
  · rw [if_neg (by decide), if_neg Bool.false_ne_true, if_neg Bool.false_ne_true]
theorem ss_par {is : List Nat} {es : List E} : SS p n S (.par is es) := fun X x c xp h => by
  simp only [chkS] at h
  split at h
  case h_2 => cases h
  rename_i ts k1 pt vs k2 pv pos
  simp only [Bool.and_eq_true] at h
  obtain ⟨⟨⟨h1, h2⟩, h3⟩, h4⟩ := h
  have fin : ∀ (D : Ends) (σ : L2.St) (H : Hp), tS X.K (p.cf n) (.par is es) D σ H → tP X.K (p.cf n) es σ H fun ws H1 => ws.length = is.length ∧ D.nx (setsR σ is ws) H1 := fun D σ H q => by
    obtain ⟨B, s, f, s', hv, F, en, k⟩ := q
    obtain ⟨rs, s1, g1, w1⟩ := bind_inv hv
    obtain ⟨_, s2, g2, w2⟩ := bind_inv w1
    obtain ⟨rfl, rfl⟩ := pure_inv w2
    refine ⟨B, s, rs, s1, g1, F, en, fun ws H' F' B' q1 e1 hl => ⟨?_, k _ H' F' q1 (storeAll_ok hl e1 g2)⟩⟩
    have l1 : ∀ {is : List Nat} {rs : List Rv} {s s' : Env}, storeAll is rs s = .ok () s' → rs.length = is.length := fun {is} => by
      induction is with
      | nil => intro rs s s' h; cases rs with
        | nil => rfl
        | cons r rs => cases h
      | cons i is ih => intro rs s s' h; cases rs with
        | nil => cases h
        | cons r rs =>
          obtain ⟨_, t, u1, _⟩ := bind_inv h
          rw [List.length_cons, List.length_cons, ih u1]
    have l2 : ∀ {B B' : Bs} {vs : List V} {rs : List Rv}, Held X.K F' B vs rs B' → vs.length = rs.length := fun {B B' vs rs} h => by
      induction h with
      | nil => rfl
      | frz _ _ ih => simp [ih]
      | own _ ih => simp [ih]
    rw [l2 hl, l1 g2]
  unfold parB at h1
  split at h1
  · rename_i i j x px y py a b
    simp only [Bool.and_eq_true, decide_eq_true_eq, Bool.not_eq_true'] at h1
    obtain ⟨⟨⟨⟨⟨⟨⟨⟨i1, i2⟩, i3⟩, i4⟩, i5⟩, i6⟩, i7⟩, i8⟩, i9⟩ := h1
    refine PS.imp (ps_par c.calm c.nd (by rw [c.hN]; exact i1) (by rw [c.hN]; exact i2) i3 i5 i6 (sp_all c h2 h3) (swap2 h4 i5 i6 i7 i4 h3 i8 i9) rfl) fun D σ H q => ?_
    obtain ⟨B, s, rs, s', g, F, en, k⟩ := fin D σ H q
    refine ⟨B, s, rs, s', g, F, en, fun ws H' F' B' q1 e1 hl => ?_⟩
    obtain ⟨lw, q2⟩ := k ws H' F' B' q1 e1 hl
    match ws, lw, q2 with
    | [v, w], _, q2 =>
      refine ⟨v, w, rfl, ?_⟩
      have q2 : D.nx ((σ.set j (some w)).set i (some v)) H' := q2
      rw [List.set_comm _ _ i3]
      exact q2
  · rename_i i j l x px y py z pz a b d
    simp only [Bool.and_eq_true, decide_eq_true_eq, Bool.not_eq_true'] at h1
    obtain ⟨⟨⟨⟨⟨⟨⟨⟨⟨⟨⟨⟨⟨⟨⟨i1, i2⟩, i3⟩, i4⟩, i5⟩, i6⟩, i7⟩, i8⟩, i9⟩, j1⟩, j2⟩, j3⟩, j4⟩, j5⟩, j6⟩, j7⟩ := h1
    refine PS.imp (ps_par3 c.calm c.nd (by rw [c.hN]; exact i1) (by rw [c.hN]; exact i2) (by rw [c.hN]; exact i3) i4 i5 i6 j1 j2 j3 (sp_all c h2 h3) (swap3 h4 j1 j2 j3 j4 j5 i7 i8 i9 h3 j6 j7) rfl) fun D σ H q => ?_
    obtain ⟨B, s, rs, s', g, F, en, k⟩ := fin D σ H q
    refine ⟨B, s, rs, s', g, F, en, fun ws H' F' B' q1 e1 hl => ?_⟩
    obtain ⟨lw, q2⟩ := k ws H' F' B' q1 e1 hl
    match ws, lw, q2 with
    | [u, v, w], _, q2 =>
      refine ⟨u, v, w, rfl, ?_⟩
      have q2 : D.nx (((σ.set l (some w)).set j (some v)).set i (some u)) H' := q2
      rw [List.set_comm _ _ i4, List.set_comm _ _ i5, List.set_comm _ _ i6] 
      exact q2
  · cases h1
end
end Ev

/-! Ev23: loops, every statement. -/
namespace Ev
open PySem PySem.Spec L2
section
variable {p : Prg} {n : Nat} {S : Sx} {K : Frag} {c : Cf}
/-- one turn of a for -/
def turn (c : Cf) (tg : Tg) (body : List Stm) : PV → M Flow := fun x => do bindT tg x; evSs c body
theorem ss_loop {tg : Tg} {k : ItK} {its : List E} {body : List Stm} (hb : SSs p n S body) : SS p n S (.loop tg k its body) := fun X x c xp h => by
  simp only [chkS] at h
  split at h
  case h_2 => cases h
  rename_i tg' it' body' pos
  simp only [Bool.and_eq_true] at h
  obtain ⟨⟨⟨h1, h2⟩, h3⟩, h4⟩ := h
  split at h3
  case h_2 => cases h3
  rename_i ys hy
  have wi := si_all (k := k) (fun e he => se e) (ses its) c hy h3
  refine PS.imp (ps_for xp.pass c.calm wi (sg_tg tg c ⟨fun x _ => xp.fn x⟩ h1) (hb X body' c xp h4) (notSet_folded h2)) fun D σ H q => ?_
  obtain ⟨B, s, f, s', hv, F, en, kk⟩ := q
  obtain ⟨rs, s1, g1, w1⟩ := bind_inv hv
  obtain ⟨ds, s2, g2, w2⟩ := bind_inv w1
  obtain ⟨xs, s3, g3, w3⟩ := bind_inv w2
  obtain ⟨g3', e3⟩ := opt_inv g3
  have e2 : s2 = s1 := by
    clear w1 w2 w3 g3 e3
    revert g2
    generalize s1 = t
    intro g2
    exact fzs_same g2
  subst e2
  subst e3
  have w3 : forLoop (turn (p.cf n) tg body) xs s3 = .ok f s' := w3
  refine ⟨B, s, rs, s3, ds, xs, g1, g2, g3', F, en, fun J H1 F1 q1 e1 wd => ?_⟩
  refine ⟨fun i m σ2 H => m = xs.length - i ∧ i ≤ xs.length ∧ ∃ F2 s2, EnvR X.K B F2 H σ2 s2 ∧ Sub F1 F2 ∧ forLoop (turn (p.cf n) tg body) (xs.drop i) s2 = .ok f s', ⟨xs.length, by simp, Nat.zero_le _, F1, s3, e1, Sub.refl F1, by rw [List.drop_zero]; exact w3⟩, ?_⟩
  rintro i m σ1 H ⟨rfl, hi, F2, s2, e2, sub2, hloop⟩
  have s12 : Sub F1 H := sub2.trans e2.fh
  by_cases hlt : i < xs.length
  · right
    refine ⟨wd.go i H hlt s12, fun σ' H' => i + 1 ≤ xs.length ∧ ∃ F3 s3, EnvR X.K B F3 H' σ' s3 ∧ Sub F1 F3 ∧ forLoop (turn (p.cf n) tg body) (xs.drop (i + 1)) s3 = .ok f s', fun σ' H' hn => ⟨xs.length - (i + 1), by omega, rfl, hn.1, hn.2⟩, fun x H' hy' => ?_⟩
    obtain ⟨F3, d, g, hd, rd⟩ := wd.yld i F2 H x H' hlt sub2 e2.fh hy'
    rw [drop_cons hd] at hloop
    obtain ⟨f1, t1, f2, v1⟩ := bind_inv hloop
    obtain ⟨_, t2, f3, v2⟩ := bind_inv f2
    refine ⟨B, F3, s2, d, t2, e2.grow g, rd, f3, fun σ2 e4 l4 o4 => ?_⟩
    refine ⟨B, t2, f1, t1, v2, F3, e4, fun σ' H5 F5 q5 e5 => ?_⟩
    have s5 : Sub F1 F5 := sub2.trans (g.ff.trans q5)
    cases f1 with
    | next => exact ⟨hlt, F5, t1, e5, s5, v1⟩
    | cont => exact ⟨hlt, F5, t1, e5, s5, v1⟩
    | brk =>
      obtain ⟨rfl, rfl⟩ := pure_inv v1
      exact kk σ' H5 F5 (q1.trans s5) e5
    | ret r =>
      obtain ⟨rfl, rfl⟩ := pure_inv v1
      exact kk σ' H5 F5 (q1.trans s5) e5
  · left
    have ei : i = xs.length := by omega
    subst ei
    refine ⟨wd.stop H s12, ?_⟩
    rw [List.drop_length] at hloop
    obtain ⟨rfl, rfl⟩ := pure_inv hloop
    exact kk σ1 H F2 (q1.trans sub2) e2
/-- a while's test -/
def wTest (c : Cf) (t : E) : M Bool := do let x ← ev c t; let u ← opd x; M.opt (truth u)
theorem ss_whl {t : E} {body : List Stm} (hb : SSs p n S body) : SS p n S (.whl t body) := fun X x c xp h => by
  simp only [chkS] at h
  split at h
  case h_2 => cases h
  rename_i c' body' pos
  rw [Bool.and_eq_true] at h
  refine PS.imp (ps_while xp.pass (st t X _ c h.1) (hb X body' c xp h.2)) fun D σ H q => ?_
  obtain ⟨B, s, f, s', hv, F, en, kk⟩ := q
  have hv : whileLoop (wTest (p.cf n) t) (evSs (p.cf n) body) fuel s = .ok f s' := hv
  refine ⟨fun m σ2 H => ∃ F2 s2, EnvR X.K B F2 H σ2 s2 ∧ Sub F F2 ∧ whileLoop (wTest (p.cf n) t) (evSs (p.cf n) body) m s2 = .ok f s', ⟨fuel, F, s, en, Sub.refl F, hv⟩, ?_⟩
  rintro m σ1 H ⟨F2, s2, e2, sub2, hloop⟩
  cases m with
  | zero => cases hloop
  | succ m =>
    obtain ⟨b, t1, f1, v1⟩ := bind_inv hloop
    obtain ⟨r, t2, f2, v2⟩ := bind_inv f1
    obtain ⟨u, t3, f3, v3⟩ := bind_inv v2
    obtain ⟨f4, e4⟩ := opt_inv v3
    have e3 := opd_same f3
    subst e3
    subst e4
    refine tUT_good f2 f3 f4 e2 fun H5 F5 q5 e5 => ?_
    cases b with
    | true =>
      rw [if_pos rfl] at v1
      rw [if_pos rfl]
      obtain ⟨f1, t4, f5, v4⟩ := bind_inv v1
      refine ⟨fun σ' H' => ∃ F3 s3, EnvR X.K B F3 H' σ' s3 ∧ Sub F F3 ∧ whileLoop (wTest (p.cf n) t) (evSs (p.cf n) body) m s3 = .ok f s', fun σ' H' hn => ⟨m, Nat.lt_succ_self m, hn⟩, B, _, f1, t4, f5, F5, e5, fun σ' H6 F6 q6 e6 => ?_⟩
      have s6 : Sub F F6 := sub2.trans (q5.trans q6)
      cases f1 with
      | next => exact ⟨F6, t4, e6, s6, v4⟩
      | cont => exact ⟨F6, t4, e6, s6, v4⟩
      | brk =>
        obtain ⟨rfl, rfl⟩ := pure_inv v4
        exact kk σ' H6 F6 s6 e6
      | ret r =>
        obtain ⟨rfl, rfl⟩ := pure_inv v4
        exact kk σ' H6 F6 s6 e6
    | false =>
      rw [if_neg Bool.false_ne_true] at v1
      rw [if_neg Bool.false_ne_true]
      obtain ⟨rfl, rfl⟩ := pure_inv v1
      exact kk σ1 H5 F5 (sub2.trans q5) e5
mutual
theorem ssAll : ∀ s : Stm, SS p n S s
  | .pass => ss_pass
  | .ex e => ss_ex
  | .asg t e => ss_asg
  | .par ts es => ss_par
  | .aug i op e => ss_aug
  | .seti i k e => ss_seti
  | .mut m i es => ss_mut
  | .ret e => ss_ret
  | .retN => ss_retN
  | .ite t a b => ss_ite (sssAll a) (sssAll b)
  | .loop tg k its body => ss_loop (sssAll body)
  | .whl t body => ss_whl (sssAll body)
  | .brk => ss_brk
  | .cont => ss_cont
  | .never => ss_never
theorem sssAll : ∀ ss : List Stm, SSs p n S ss
  | [] => sss_nil
  | s :: ss => sss_cons (ssAll s) (sssAll ss)
end
end
end Ev

/-! Ev24: every def keeps its promise. -/
namespace Ev
open PySem PySem.Spec L2
section
variable {K : Frag} {F H : Hp} {lent : List Nat}
/-- the arguments, place by place -/
theorem ArgsR.places : ∀ {k : Nat} {vs : List V} {ds : List PV} {as : List Addr}, ArgsR K F H lent k vs ds as → ds.length = vs.length ∧ ∃ I : List (Nat × Addr), I.map (·.2) = as ∧ I.map (·.1) = (List.range' k vs.length).filter lent.contains ∧ (∀ p ∈ I, k ≤ p.1) ∧
    (∀ j d, ds[j]? = some d → (lent.contains (k + j) = false ∧ ∃ v, vs[j]? = some v ∧ Rp K F v d) ∨ (lent.contains (k + j) = true ∧ ∃ a, vs[j]? = some (.ref a) ∧ (k + j, a) ∈ I ∧ F a = none ∧ OwnR K F H a d)) ∧
    ∀ p ∈ I, ∃ d, ds[p.1 - k]? = some d ∧ lent.contains p.1 = true ∧ vs[p.1 - k]? = some (.ref p.2)
  | k, _, _, _, .nil => ⟨rfl, [], rfl, rfl, fun p hp => (by cases hp), fun j d h => (by simp at h), fun p hp => (by cases hp)⟩
  | k, _, _, _, .val (v := v) (vs := vs) (d := d) (ds := ds) (as := as) hc r t => by
    obtain ⟨l, I, h1, h2, h3, h4, h5⟩ := ArgsR.places t
    refine ⟨by simp [l], I, h1, ?_, fun p hp => Nat.le_of_succ_le (h3 p hp), fun j e h => ?_, fun p hp => ?_⟩
    · rw [List.length_cons, List.range'_succ, List.filter_cons, hc]
      simpa using h2
    · cases j with
      | zero =>
        simp only [List.getElem?_cons_zero, Option.some.injEq] at h
        subst h
        exact .inl ⟨hc, v, rfl, r⟩
      | succ j =>
        rw [List.getElem?_cons_succ] at h
        have w := h4 j e h
        rw [show k + 1 + j = k + (j + 1) by omega] at w
        simpa using w
    · obtain ⟨d', g1, g2, g3⟩ := h5 p hp
      have := h3 p hp
      refine ⟨d', ?_, g2, ?_⟩
      · rw [show p.1 - k = (p.1 - (k + 1)) + 1 by omega, List.getElem?_cons_succ]; exact g1
      · rw [show p.1 - k = (p.1 - (k + 1)) + 1 by omega, List.getElem?_cons_succ]; exact g3
  | k, _, _, _, .lent (a := a) (vs := vs) (d := d) (ds := ds) (as := as) hc hn ro t => by
    obtain ⟨l, I, h1, h2, h3, h4, h5⟩ := ArgsR.places t
    refine ⟨by simp [l], (k, a) :: I, by simp [h1], ?_, fun p hp => ?_, fun j e h => ?_, fun p hp => ?_⟩
    · rw [List.length_cons, List.range'_succ, List.filter_cons, hc]
      simpa using h2
    · rcases List.mem_cons.mp hp with rfl | hp
      · exact Nat.le_refl _
      · exact Nat.le_of_succ_le (h3 p hp)
    · cases j with
      | zero =>
        simp only [List.getElem?_cons_zero, Option.some.injEq] at h
        subst h
        exact .inr ⟨hc, a, rfl, by simp, hn, ro⟩
      | succ j =>
        rw [List.getElem?_cons_succ] at h
        have w := h4 j e h
        rw [show k + 1 + j = k + (j + 1) by omega] at w
        rcases w with w | ⟨w1, b, w2, w3, w4⟩
        · exact .inl (by simpa using w)
        · exact .inr ⟨w1, b, by simpa using w2, List.mem_cons_of_mem _ w3, w4⟩
    · rcases List.mem_cons.mp hp with rfl | hp
      · exact ⟨d, by simp, hc, by simp⟩
      · obtain ⟨d', g1, g2, g3⟩ := h5 p hp
        have := h3 p hp
        refine ⟨d', ?_, g2, ?_⟩
        · rw [show p.1 - k = (p.1 - (k + 1)) + 1 by omega, List.getElem?_cons_succ]; exact g1
        · rw [show p.1 - k = (p.1 - (k + 1)) + 1 by omega, List.getElem?_cons_succ]; exact g3
theorem start_get {d : Ev.Def} {args : List PV} (i : Nat) {x : Slot} (h : (d.start args)[i]? = some x) : (∃ e, args[i]? = some e ∧ x = if d.lent.contains i then .io e else .frz e) ∨ (args.length ≤ i ∧ x = .emp) := by
  unfold Def.start at h
  by_cases hi : i < args.length
  · left
    rw [List.getElem?_append_left (by simpa using hi), List.getElem?_map, List.getElem?_zipIdx] at h
    rw [List.getElem?_eq_getElem hi] at h ⊢
    simp only [Option.map_some, Nat.zero_add, Option.some.injEq] at h
    exact ⟨_, rfl, h.symm⟩
  · right
    rw [List.getElem?_append_right (by simpa using hi)] at h
    refine ⟨by omega, ?_⟩
    have := List.mem_of_getElem? h
    exact List.eq_of_mem_replicate this
theorem vstart_get {N : List Str} {vs : List V} {i : Nat} {v : V} (h : vs[i]? = some v) : (L2.start N vs)[i]? = some (some v) := by
  have hi := (List.getElem?_eq_some_iff.mp h).1
  unfold L2.start
  rw [List.getElem?_append_left (by simpa using hi), List.getElem?_map, h]
  rfl
theorem outs_ok {B : Bs} {F' H' : Hp} {σ : L2.St} {s : Env} (en : EnvR K B F' H' σ s) : ∀ {I : List (Nat × Addr)} {os : List PV}, (∀ p ∈ I, p ∈ B.I) → outs s (I.map (·.1)) = some os → Paired (fun a o => OwnR K F' H' a o) (I.map (·.2)) os
  | [], os, _, h => by cases h; exact .nil
  | p :: I, os, hI, h => by
    obtain ⟨d, g1, g2⟩ := en.lent p (hI p (by simp))
    have h : outs s (p.1 :: I.map (·.1)) = some os := h
    unfold outs at h
    rw [g1] at h
    have h : (outs s (I.map (·.1))).map (d :: ·) = some os := h
    cases ho : outs s (I.map (·.1)) with
    | none => rw [ho] at h; cases h
    | some o2 =>
      rw [ho] at h
      cases h
      obtain ⟨a, w1, _, _, w4⟩ := en.slot p.1 _ g1
      rw [g2] at w1
      cases w1
      exact .cons w4 (outs_ok en (fun q hq => hI q (by simp [hq])) ho)
end
/-! ### what is known of the program -/
def defOk (fns gs : List Str) (d : Ev.Def) (st : Stmt) : Bool :=
  decide (d.np ≤ d.N.length) && decide (d.lent = (List.range' 0 d.np).filter d.lent.contains) && chkSs ⟨d.N, fns, gs⟩ (defScope st) d.body (defBody st)
inductive FunsR (P : Program) (w : World) (K : Frag) (mg : Str → Option Value) (base : Heap) (fns gs : List Str) : List Ev.Def → List Stmt → Prop
  | nil : FunsR P w K mg base fns gs [] []
  | cons {d : Ev.Def} {st : Stmt} {ds : List Ev.Def} {sts : List Stmt} {fa : Addr} {fd : FuncData} : Fun K d.nm d.nm st fa fd → mg d.nm = some (.ref fa) → Binds K fd (d.N.take d.np) [] → FnScope d.N (d.N.take d.np) (defScope st) → defOk fns gs d st = true → FunsR P w K mg base fns gs ds sts → FunsR P w K mg base fns gs (d :: ds) (st :: sts)
structure WF (p : Prg) (P : Program) (w : World) (K : Frag) (mg : Str → Option Value) (base : Heap) (fns gs : List Str) (sts : List Stmt) : Prop where
  blt : ∀ x ∈ bltNames, mg x = none
  con : ∀ (g : Nat) (x : Str) (d : PV), gs[g]? = some x → p.G[g]? = some d → ∃ v u, mg x = some u ∧ RelV v u ∧ ∀ H : Hp, Rp K H v d
  nms : fns = p.defs.map (·.nm)
  fun_ : FunsR P w K mg base fns gs p.defs sts
section
variable {p : Prg} {P : Program} {w : World} {K : Frag} {mg : Str → Option Value} {base : Heap} {fns gs : List Str} {sts : List Stmt}
theorem FunsR.at : ∀ {ds : List Ev.Def} {sts : List Stmt}, FunsR P w K mg base fns gs ds sts → ∀ {f : Nat} {d : Ev.Def}, ds[f]? = some d → ∃ st fa fd, Fun K d.nm d.nm st fa fd ∧ mg d.nm = some (.ref fa) ∧ Binds K fd (d.N.take d.np) [] ∧ FnScope d.N (d.N.take d.np) (defScope st) ∧ defOk fns gs d st = true
  | _, _, .nil, f, d, h => by simp at h
  | _, _, .cons h1 h2 h3 h4 h5 t, f, d, h => by
    cases f with
    | zero => cases h; exact ⟨_, _, _, h1, h2, h3, h4, h5⟩
    | succ f => exact FunsR.at t (by simpa using h)
def Promise (p : Prg) (P : Program) (w : World) (K : Frag) (mg : Str → Option Value) (base : Heap) (n f : Nat) (x : Str) : Prop :=
  ∃ fa fd ps, mg x = some (.ref fa) ∧ PySem.W.keepIn K (.ref fa) = true ∧ Binds K fd ps [] ∧ FnOk P w K mg base CX0 n fa fd ps (spF K p n f) ∧ (∃ st, Fun K x x st fa fd) ∧ ∀ d, p.defs[f]? = some d → ps = d.N.take d.np
theorem never_ok {n f : Nat} {fa : Addr} {fd : FuncData} {ps : List Str} (h : ∀ vs H Q E, ¬ spF K p n f vs H Q E) : FnOk P w K mg base CX0 n fa fd ps (spF K p n f) :=
  ⟨fun vs H Q E q => (h _ _ _ _ q).elim, fun A outer s H args us vs Q E _ _ _ _ q => (h _ _ _ _ q).elim⟩
/-- THE THEOREM: what the evaluator tells, the def does -/
theorem all_ok (W : WF p P w K mg base fns gs sts) : ∀ (n f : Nat) (d : Ev.Def), p.defs[f]? = some d → Promise p P w K mg base n f d.nm
  | 0, f, d, hd => by
    obtain ⟨st, fa, fd, h1, h2, h3, h4, h5⟩ := W.fun_.at hd
    refine ⟨fa, fd, _, h2, h1.kp, h3, never_ok fun vs H Q E q => ?_, ⟨st, h1⟩, fun d' hd' => by rw [hd] at hd'; cases hd'; rfl⟩
    obtain ⟨F, args, as, r, os, _, hΦ, _⟩ := q
    cases hΦ
  | n + 1, f, d, hd => by
    obtain ⟨st, fa, fd, h1, h2, h3, h4, h5⟩ := W.fun_.at hd
    refine ⟨fa, fd, _, h2, h1.kp, h3, ?_, ⟨st, h1⟩, fun d' hd' => by rw [hd] at hd'; cases hd'; rfl⟩
    unfold defOk at h5
    simp only [Bool.and_eq_true, decide_eq_true_eq] at h5
    obtain ⟨⟨h5, h6⟩, h7⟩ := h5
    have run : ∀ {args : List PV} {r : Rv} {os : List PV}, p.Φ (n + 1) f args = some (r, os) → args.length = d.np ∧ ∃ fl s', evSs (p.cf n) d.body (d.start args) = .ok fl s' ∧ outs s' d.lent = some os ∧ ((fl = .ret r ∧ ((∃ v, r = .frz v) ∨ ∃ v, r = .own v)) ∨ (fl = .next ∧ r = .frz .none)) := fun {args r os} h => by
      rw [Prg.Φ_succ, hd] at h
      have h : runDef (p.cf n) d args = some (r, os) := h
      unfold runDef at h
      split at h
      · rename_i hn
        refine ⟨hn.1, ?_⟩
        split at h
        · rename_i v s' e
          cases ho : outs s' d.lent with
          | none => rw [ho] at h; cases h
          | some o => rw [ho] at h; cases h; exact ⟨_, s', e, ho, .inl ⟨rfl, .inl ⟨_, rfl⟩⟩⟩
        · rename_i v s' e
          cases ho : outs s' d.lent with
          | none => rw [ho] at h; cases h
          | some o => rw [ho] at h; cases h; exact ⟨_, s', e, ho, .inl ⟨rfl, .inr ⟨_, rfl⟩⟩⟩
        · rename_i s' e
          cases ho : outs s' d.lent with
          | none => rw [ho] at h; cases h
          | some o => rw [ho] at h; cases h; exact ⟨_, s', e, ho, .inr ⟨rfl, rfl⟩⟩
        · cases h
      · cases h
    refine h1.ok h4 (fun vs H Q E q => ?_) fun cdv A outer s H vs Q E hr q => ?_
    · obtain ⟨F, args, as, r, os, _, hΦ, ha, _⟩ := q
      obtain ⟨l, _⟩ := ha.places
      rw [← l, (run hΦ).1, List.length_take]
      omega
    · obtain ⟨F, args, as, r, os, sub, hΦ, ha, nd, k⟩ := q
      obtain ⟨la, fl, s', hev, hou, hres⟩ := run hΦ
      obtain ⟨l, I, i1, i2, i3, i4, i5⟩ := ha.places
      have hl : p.lent f = d.lent := by unfold Prg.lent; rw [hd]
      rw [hl] at i2 i4 i5
      have hI : I.map (·.1) = d.lent := by
        rw [i2, ← l, la]
        exact h6.symm
      have xc : XC p n ⟨d.N, fns, gs⟩ (cxOf CX0 P w K mg base d.N d.nm (defScope st) fa cdv A outer s H E).nox := by
        refine ⟨rfl, h4.nd, rfl, hr, W.blt, W.con, fun g x hx => ?_⟩
        rw [W.nms] at hx
        have hx : (p.defs.map (·.nm))[g]? = some x := hx
        rw [List.getElem?_map] at hx
        cases hg : p.defs[g]? with
        | none => rw [hg] at hx; cases hx
        | some dg =>
          rw [hg] at hx
          injection hx with hx
          subst hx
          obtain ⟨fa, fd, ps, a1, a2, a3, a4, _⟩ := all_ok W n g dg hg
          exact ⟨fa, fd, ps, a1, a2, a3, a4⟩
      refine ⟨_, sssAll d.body _ (defBody st) xc ⟨PassesOwn.never, fun _ => rfl⟩ h7, ?_⟩
      let B : Bs := ⟨H, F, I, []⟩
      have en : EnvR K B F H (L2.start d.N vs) (d.start args) := by
        refine ⟨sub, ?_, fun i x hx => ?_, fun i j x y a g1 g2 o1 o2 e1 e2 => ?_, fun p hp => (by cases hp), fun p hp => (by cases hp), List.nodup_nil, fun q hq => ?_, fun a o h _ => h, fun a o h => .inl h, Sub.refl F⟩
        · unfold Def.start L2.start
          simp [l]
        · rcases start_get i hx with ⟨e, he, rfl⟩ | ⟨_, rfl⟩
          · rcases i4 i e he with ⟨c1, v, c2, c3⟩ | ⟨c1, a, c2, c3, c4, c5⟩
            · rw [Nat.zero_add] at c1
              rw [c1]
              exact ⟨v, vstart_get c2, c3⟩
            · rw [Nat.zero_add] at c1 c3
              rw [c1]
              exact ⟨a, vstart_get c2, c3, c4, c5⟩
          · trivial
        · have own : ∀ {i : Nat} {x : Slot}, (d.start args)[i]? = some x → isOwn x = true → ∃ a, (L2.start d.N vs)[i]? = some (some (.ref a)) ∧ (i, a) ∈ I := fun {i x} g o => by
            rcases start_get i g with ⟨e, he, rfl⟩ | ⟨_, rfl⟩
            · rcases i4 i e he with ⟨c1, v, c2, c3⟩ | ⟨c1, a, c2, c3, c4, c5⟩
              · rw [Nat.zero_add] at c1
                rw [c1] at o
                cases o
              · rw [Nat.zero_add] at c3
                exact ⟨a, vstart_get c2, c3⟩
            · cases o
          obtain ⟨a1, e3, m1⟩ := own g1 o1
          obtain ⟨a2, e4, m2⟩ := own g2 o2
          rw [e1] at e3
          rw [e2] at e4
          cases e3
          cases e4
          rw [← i1] at nd
          have inj : ∀ {I : List (Nat × Addr)}, (I.map (·.2)).Nodup → (i, a) ∈ I → (j, a) ∈ I → i = j := fun {I} => by
            induction I with
            | nil => intro _ h _; cases h
            | cons q I ih =>
              intro nd h1 h2
              obtain ⟨n1, n2⟩ := List.nodup_cons.mp (show (q.2 :: I.map (·.2)).Nodup from nd)
              rcases List.mem_cons.mp h1 with h1 | h1 <;> rcases List.mem_cons.mp h2 with h2 | h2
              · rw [← h1] at h2; cases h2; rfl
              · rw [← h1] at n1; exact (n1 (List.mem_map.mpr ⟨_, h2, rfl⟩)).elim
              · rw [← h2] at n1; exact (n1 (List.mem_map.mpr ⟨_, h1, rfl⟩)).elim
              · exact ih n2 h1 h2
          exact inj nd m1 m2
        · obtain ⟨d', g1, g2, g3⟩ := i5 q hq
          rw [Nat.sub_zero] at g1 g3
          refine ⟨d', ?_, vstart_get g3⟩
          cases hs : (d.start args)[q.1]? with
          | none =>
            have h9 := List.getElem?_eq_none_iff.mp hs
            have := (List.getElem?_eq_some_iff.mp g1).1
            unfold Def.start at h9
            simp at h9
            omega
          | some x =>
            rcases start_get q.1 hs with ⟨e, he, rfl⟩ | ⟨h9, rfl⟩
            · rw [g1] at he
              cases he
              rw [g2]
              rfl
            · have := (List.getElem?_eq_some_iff.mp g1).1
              omega
      refine ⟨B, d.start args, fl, s', hev, F, en, fun σ' H' F' q1 e1 => ?_⟩
      have post : ∀ {v : V}, ResR K H F' H' v r → Q v H' := fun {v} hr => k v F' H' ⟨q1, e1.fh, fun a o ho na => e1.keep a o ho fun q hq z => na (by rw [← i1, ← z]; exact List.mem_map.mpr ⟨q, hq, rfl⟩), fun a o ho => e1.fnew a o ho, by
        rw [← i1]
        rw [← hI] at hou
        exact outs_ok e1 (fun q hq => hq) hou, hr⟩
      rcases hres with ⟨rfl, hr⟩ | ⟨rfl, rfl⟩
      · intro v rv
        rcases hr with ⟨d2, rfl⟩ | ⟨d2, rfl⟩
        · exact post rv
        · obtain ⟨a, rfl, c1, c2, c3, _⟩ := rv
          exact post ⟨a, rfl, c2, c1, c3⟩
      · exact post (v := .non) .non
/-- the law's own def -/
theorem law_at (W : WF p P w K mg base fns gs sts) {n f : Nat} {d : Ev.Def} (hd : p.defs[f]? = some d) {fa : Addr} {fd : FuncData} {x : Str} {st : Stmt} (hm : mg x = some (.ref fa)) (hx : d.nm = x) (F : Fun K x x st fa fd) : FnOk P w K mg base CX0 n fa fd (d.N.take d.np) (spF K p n f) := by
  obtain ⟨fa', fd', ps, h1, h2, h3, h4, ⟨st', h5⟩, h6⟩ := all_ok W n f d hd
  rw [hx, hm] at h1
  cases h1
  obtain ⟨oc, od, kV, doc, pm, an, cdv, ct, osl, e1, e2, _⟩ := F.ex
  obtain ⟨oc', od', kV', doc', pm', an', cdv', ct', osl', e1', e2', _⟩ := h5.ex
  rw [e2] at e2'
  have e3 : fd = fd' := by
    injection e2' with e2'
    injection e2' with _ _ e2' _
    injection e2'
  subst e3
  rw [h6 d hd] at h4
  exact h4
theorem law_spec {n f : Nat} {H : Hp} {a : Addr} {ns : List Int} (hS : SqL K H a (ns.map V.int)) (hl : (p.lent f).contains 0 = false) (h : p.Φ n f [scriptV ns] = some (.frz (.bool true), [])) : spF K p n f [.ref a] H (fun v _ => v = .bl true) fun _ _ _ => False := by
  have ra : ∀ ns : List Int, RpAll K H (ns.map V.int) (ns.map PyData.int) := fun ns => by
    induction ns with
    | nil => exact .nil
    | cons n ns ih => exact .cons (.int n) ih
  refine ⟨H, [scriptV ns], [], .frz (.bool true), [], Sub.refl H, h, .val hl (.scr hS (ra ns)) .nil, List.nodup_nil, fun v F' H' po => ?_⟩
  have r : Rp K F' v (.bool true) := po.res
  cases r
  rfl
end
end Ev

/-! Ev25: how a run is told. -/
namespace Ev
open PySem PySem.Spec L2
theorem optD {α : Type} (o : Option α) (s : Env) : M.opt o s = match o with | some a => .ok a s | none => .stuck := rfl
/-- a def's run -/
theorem phi_run {p : Prg} {n f : Nat} {d : Ev.Def} {args : List PV} (hd : p.defs[f]? = some d) : p.Φ (n + 1) f args = runDef (p.cf n) d args := by
  rw [Prg.Φ_succ, hd]
theorem run_frz {c : Cf} {d : Ev.Def} {args : List PV} {v : PV} {s : Env} {os : List PV} (h1 : args.length = d.np) (h2 : d.np ≤ d.N.length) (h : evSs c d.body (d.start args) = .ok (.ret (.frz v)) s) (ho : outs s d.lent = some os) : runDef c d args = some (.frz v, os) := by
  unfold runDef
  rw [if_pos ⟨h1, h2⟩, h]
  show (outs s d.lent).map _ = _
  rw [ho]
  rfl
theorem run_own {c : Cf} {d : Ev.Def} {args : List PV} {v : PV} {s : Env} {os : List PV} (h1 : args.length = d.np) (h2 : d.np ≤ d.N.length) (h : evSs c d.body (d.start args) = .ok (.ret (.own v)) s) (ho : outs s d.lent = some os) : runDef c d args = some (.own v, os) := by
  unfold runDef
  rw [if_pos ⟨h1, h2⟩, h]
  show (outs s d.lent).map _ = _
  rw [ho]
  rfl
theorem run_next {c : Cf} {d : Ev.Def} {args : List PV} {s : Env} {os : List PV} (h1 : args.length = d.np) (h2 : d.np ≤ d.N.length) (h : evSs c d.body (d.start args) = .ok .next s) (ho : outs s d.lent = some os) : runDef c d args = some (.frz .none, os) := by
  unfold runDef
  rw [if_pos ⟨h1, h2⟩, h]
  show (outs s d.lent).map _ = _
  rw [ho]
  rfl
/-! ### loops -/
/-- a comprehension whose turns are told -/
theorem lc_told {vs : List Nat} {f : PV → M (Option PV)} {h : Env} (g : PV → Option PV) : ∀ {xs acc : List PV}, (∀ x ∈ xs, ∃ s', f x h = .ok (g x) s' ∧ hideM vs s' = .ok () h) → lcLoop vs f xs acc h = .ok (acc ++ xs.filterMap g) h
  | [], acc, _ => by simp [lcLoop, pure_def]
  | x :: xs, acc, H => by
    obtain ⟨s', h1, h2⟩ := H x (by simp)
    have ih := lc_told (vs := vs) (f := f) (h := h) g (xs := xs) (acc := match g x with | some v => acc ++ [v] | none => acc) fun y hy => H y (by simp [hy])
    show (do let r ← f x; hideM vs; lcLoop vs f xs (match r with | some v => acc ++ [v] | none => acc) : M (List PV)) h = _
    rw [bind_def, h1, andThen_ok, bind_def, h2, andThen_ok]
    rw [ih]
    cases hg : g x with
    | none => rw [List.filterMap_cons_none hg]
    | some v => rw [List.filterMap_cons_some hg]; simp
theorem lcAll_told {vs : List Nat} {f : PV → M (Option PV)} {xs : List PV} {s0 h : Env} (g : PV → Option PV) (hh : hideM vs s0 = .ok () h) (H : ∀ x ∈ xs, ∃ s', f x h = .ok (g x) s' ∧ hideM vs s' = .ok () h) : lcAll vs f xs s0 = .ok (.own (.list (xs.filterMap g))) (restore vs s0 h) := by
  unfold lcAll
  rw [bind_def, hh, andThen_ok, lc_told g H, List.nil_append]
  rfl
theorem lcAll_map {vs : List Nat} {f : PV → M (Option PV)} {xs : List PV} {s0 h : Env} (g : PV → PV) (hh : hideM vs s0 = .ok () h) (H : ∀ x ∈ xs, ∃ s', f x h = .ok (some (g x)) s' ∧ hideM vs s' = .ok () h) : lcAll vs f xs s0 = .ok (.own (.list (xs.map g))) (restore vs s0 h) := by
  rw [lcAll_told (fun x => some (g x)) hh H, List.filterMap_eq_map']
/-- a for whose turns are told: A, what the names hold -/
theorem for_told {A : Type} {step : PV → M Flow} (S : A → Env) (g : A → PV → A) (P : A → Prop) : ∀ {xs : List PV} {a : A}, P a → (∀ a, ∀ x ∈ xs, P a → step x (S a) = .ok .next (S (g a x)) ∧ P (g a x)) → forLoop step xs (S a) = .ok .next (S (xs.foldl g a)) ∧ P (xs.foldl g a)
  | [], a, ha, _ => ⟨rfl, ha⟩
  | x :: xs, a, ha, H => by
    obtain ⟨h1, h2⟩ := H a x (by simp) ha
    show (do let f ← step x; _ : M Flow) (S a) = _ ∧ _
    rw [bind_def, h1, andThen_ok]
    exact for_told S g P h2 fun a y hy => H a y (by simp [hy])
/-! ### running by rewriting: what stands first is run first -/
/-- the type hangs on what follows, so that a rewriter leaves it alone until it is its turn -/
abbrev OutOf {α β : Type} (_ : α → M β) : Type := RE β
def thn {α β : Type} (r : RE α) (f : α → M β) : OutOf f := r.andThen f
theorem thn_ok {α β : Type} (a : α) (s : Env) (f : α → M β) : (thn (.ok a s) f : RE β) = f a s := rfl
theorem thn_stuck {α β : Type} (f : α → M β) : (thn (.stuck : RE α) f : RE β) = .stuck := rfl
section
variable {c : Cf} {s : Env} {v : PV} {i : Nat}
theorem x_cint {i : Int} : ev c (.cint i) s = .ok (.frz (.int i)) s := rfl
theorem x_cbl {b : Bool} : ev c (.cbl b) s = .ok (.frz (.bool b)) s := rfl
theorem x_cnon : ev c .cnon s = .ok (.frz .none) s := rfl
theorem x_cstr {z : Str} : ev c (.cstr z) s = .ok (.frz (.str z)) s := rfl
theorem x_var : ev c (.var i) s = mVar i s := rfl
theorem x_mv : ev c (.mv i) s = mMv i s := rfl
theorem x_peek : ev c (.peek i) s = mPeek i s := rfl
theorem x_glb {g : Nat} : ev c (.glb g) s = M.opt ((c.G[g]?).map .frz) s := rfl
theorem x_bin {op : Operator} {a b : E} : ev c (.bin op a b) s = thn (ev c a s) fun x s1 => thn (ev c b s1) fun y s2 => thn (opd x s2) fun u s3 => thn (opd y s3) fun v => M.opt (binOp op u v) := rfl
theorem x_neg {a : E} : ev c (.neg a) s = thn (ev c a s) fun x s1 => thn (opd x s1) fun u => (match u with | .int i => pure (.frz (.int (-i))) | _ => M.stuck) := rfl
theorem x_not {a : E} : ev c (.not a) s = thn (ev c a s) fun x s1 => thn (opd x s1) fun u s2 => thn (M.opt (truth u) s2) fun b s3 => .ok (.frz (.bool (!b))) s3 := rfl
theorem x_bop {op : BoolOp} {es : List E} : ev c (.bop op es) s = evB c op es s := rfl
theorem x_cmp {op : CmpOp} {a b : E} : ev c (.cmp op a b) s = thn (ev c a s) fun x s1 => thn (ev c b s1) fun y s2 => thn (opd x s2) fun u s3 => thn (opd y s3) fun v s4 => thn (M.opt (cmpOp op u v) s4) fun r s5 => .ok (.frz (.bool r)) s5 := rfl
theorem x_chain {o1 o2 : CmpOp} {a b d : E} : ev c (.chain o1 o2 a b d) s = thn (ev c a s) fun x s1 => thn (ev c b s1) fun y s2 => thn (opd x s2) fun u s3 => thn (fz y s3) fun v s4 => thn (M.opt (cmpOp o1 u v) s4) fun r => if r then (fun s5 => thn (ev c d s5) fun z s6 => thn (opd z s6) fun w s7 => thn (M.opt (cmpOp o2 v w) s7) fun r2 s8 => .ok (.frz (.bool r2)) s8) else pure (.frz (.bool false)) := by
  show (do let x ← ev c a; _ : M Rv) s = _
  simp only [bind_def]
  rfl
theorem x_ite {t a b : E} : ev c (.ite t a b) s = thn (ev c t s) fun x s1 => thn (opd x s1) fun u s2 => thn (M.opt (truth u) s2) fun k => if k then ev c a else ev c b := rfl
theorem x_tup {es : List E} : ev c (.tup es) s = thn (evA c es s) fun rs s1 => thn (fzs rs s1) fun vs => if vs.length ≤ lim then pure (.frz (.tuple vs)) else M.stuck := rfl
theorem x_lst {es : List E} : ev c (.lst es) s = thn (evA c es s) fun rs s1 => thn (fzs rs s1) fun vs => if vs.length ≤ lim then pure (.own (.list vs)) else M.stuck := rfl
theorem x_dct0 : ev c .dct0 s = .ok (.own (.dict [])) s := rfl
theorem x_idx {a b : E} : ev c (.idx a b) s = thn (ev c a s) fun x s1 => thn (ev c b s1) fun y s2 => thn (opd x s2) fun u s3 => thn (opd y s3) fun v s4 => thn (M.opt (idxOp u v) s4) fun r s5 => .ok (.frz r) s5 := rfl
theorem x_slcL {a lo : E} : ev c (.slcL a lo) s = thn (ev c a s) fun x s1 => thn (ev c lo s1) fun y s2 => thn (opd x s2) fun u s3 => thn (fz y s3) fun v => (match v with | .int i => M.opt (slcOp (some i) none u) | _ => M.stuck) := rfl
theorem x_slcH {a hi : E} : ev c (.slcH a hi) s = thn (ev c a s) fun x s1 => thn (ev c hi s1) fun y s2 => thn (opd x s2) fun u s3 => thn (fz y s3) fun v => (match v with | .int i => M.opt (slcOp none (some i) u) | _ => M.stuck) := rfl
theorem x_isi {T : Ty} {a : E} : ev c (.isi T a) s = thn (ev c a s) fun x s1 => thn (opd x s1) fun u s2 => thn (M.opt (isiOp T u) s2) fun b s3 => .ok (.frz (.bool b)) s3 := rfl
theorem x_blt {b : Blt} {es : List E} : ev c (.blt b es) s = thn (evs c es s) fun rs s1 => thn (opds rs s1) fun vs => M.opt (bltOp b vs) := rfl
theorem x_lrng {es : List E} : ev c (.lrng es) s = thn (evs c es s) fun rs s1 => thn (fzs rs s1) fun vs s2 => thn (M.opt (items .rng vs) s2) fun xs s3 => .ok (.own (.list xs)) s3 := rfl
theorem x_mth {m : Mth} {o : E} {es : List E} : ev c (.mth m o es) s = thn (ev c o s) fun x s1 => thn (opd x s1) fun u0 => if isListV u0 then (fun s2 => thn (evs c es s2) fun rs s3 => thn (opd x s3) fun u s4 => thn (opds rs s4) fun vs => M.opt (mthOp m u vs)) else M.stuck := rfl
theorem x_call {f : Nat} {es : List E} : ev c (.call f es) s = thn (evs c es s) fun rs => callFn c f rs := rfl
theorem x_lc {own : List (Str × Nat)} {elt : E} {tg : Tg} {k : ItK} {its ifs : List E} : ev c (.lc own elt tg k its ifs) s = thn (evs c its s) fun rs s1 => thn (fzs rs s1) fun vs s2 => thn (M.opt (items k vs) s2) fun xs s3 => lcAll (own.map (·.2)) (lcTurn c tg ifs elt) xs s3 := rfl
theorem x_turn {tg : Tg} {ifs : List E} {elt : E} {x : PV} : lcTurn c tg ifs elt x s = thn (bindT tg x s) fun _ s1 => thn (evT c ifs s1) fun b => if b then (fun s2 => thn (ev c elt s2) fun r s3 => thn (fz r s3) fun v s4 => .ok (some v) s4) else pure none := by
  show (do bindT tg x; _ : M (Option PV)) s = _
  simp only [bind_def]
  rfl
theorem x_evB1 {op : BoolOp} {e : E} : evB c op [e] s = thn (ev c e s) fun r s1 => thn (fz r s1) fun v s2 => .ok (.frz v) s2 := rfl
theorem x_and {e e2 : E} {es : List E} : evB c .And (e :: e2 :: es) s = thn (ev c e s) fun x s1 => thn (opd x s1) fun u => match u with | .bool false => pure (.frz (.bool false)) | .bool true => evB c .And (e2 :: es) | _ => M.stuck := by
  show (ev c e >>= fun x => opd x >>= fun u => (match u, BoolOp.And with
    | .bool false, .And => pure (.frz (.bool false))
    | .bool true, .And => evB c .And (e2 :: es)
    | .bool true, .Or => pure (.frz (.bool true))
    | .bool false, .Or => evB c .And (e2 :: es)
    | _, _ => M.stuck : M Rv)) s = _
  simp only [bind_def]
  congr 1; funext x s1
  show (opd x s1).andThen _ = _
  congr 1; funext u
  cases u <;> first | rfl | (rename_i b; cases b <;> rfl)
theorem x_or {e e2 : E} {es : List E} : evB c .Or (e :: e2 :: es) s = thn (ev c e s) fun x s1 => thn (opd x s1) fun u => match u with | .bool true => pure (.frz (.bool true)) | .bool false => evB c .Or (e2 :: es) | _ => M.stuck := by
  show (ev c e >>= fun x => opd x >>= fun u => (match u, BoolOp.Or with
    | .bool false, .And => pure (.frz (.bool false))
    | .bool true, .And => evB c .Or (e2 :: es)
    | .bool true, .Or => pure (.frz (.bool true))
    | .bool false, .Or => evB c .Or (e2 :: es)
    | _, _ => M.stuck : M Rv)) s = _
  simp only [bind_def]
  congr 1; funext x s1
  show (opd x s1).andThen _ = _
  congr 1; funext u
  cases u <;> first | rfl | (rename_i b; cases b <;> rfl)
theorem x_evs0 : evs c [] s = .ok [] s := rfl
theorem x_evs1 {e : E} {es : List E} : evs c (e :: es) s = thn (ev c e s) fun r s1 => thn (evs c es s1) fun rs s2 => .ok (r :: rs) s2 := rfl
theorem x_evA0 : evA c [] s = .ok [] s := rfl
theorem x_evA1 {e : E} {es : List E} (h : isStar e = false) : evA c (e :: es) s = thn (ev c e s) fun r s1 => thn (fz r s1) fun v s2 => thn (evA c es s2) fun rs s3 => .ok (.frz v :: rs) s3 := by
  rw [evA_plain h]; rfl
theorem x_evT0 : evT c [] s = .ok true s := rfl
theorem x_evT1 {e : E} {es : List E} : evT c (e :: es) s = thn (ev c e s) fun x s1 => thn (opd x s1) fun u s2 => thn (M.opt (truth u) s2) fun b => if b then evT c es else pure false := rfl
theorem x_opdF : opd (.frz v) s = .ok v s := rfl
theorem x_opdO : opd (.own v) s = .ok v s := rfl
theorem x_opdS : opd (.slot i) s = M.opt ((s[i]?).bind slotVal) s := rfl
theorem x_fzF : fz (.frz v) s = .ok v s := rfl
theorem x_fzO : fz (.own v) s = .ok v s := rfl
theorem x_opds0 : opds [] s = .ok [] s := rfl
theorem x_opds1 {r : Rv} {rs : List Rv} : opds (r :: rs) s = thn (opd r s) fun v s1 => thn (opds rs s1) fun vs s2 => .ok (v :: vs) s2 := rfl
theorem x_fzs0 : fzs [] s = .ok [] s := rfl
theorem x_fzs1 {r : Rv} {rs : List Rv} : fzs (r :: rs) s = thn (fz r s) fun v s1 => thn (fzs rs s1) fun vs s2 => .ok (v :: vs) s2 := rfl
theorem x_pure {α : Type} (a : α) : (pure a : M α) s = .ok a s := rfl
theorem x_opt {α : Type} (a : α) : M.opt (some a) s = .ok a s := rfl
theorem x_mVarF (h : s[i]? = some (.frz v)) : mVar i s = .ok (.frz v) s := by unfold mVar; rw [h]
theorem x_mVarO (h : s[i]? = some (.own v)) : mVar i s = .ok (.frz v) (s.set i (.frz v)) := by unfold mVar; rw [h]
theorem x_mMvF (h : s[i]? = some (.frz v)) : mMv i s = .ok (.frz v) s := by unfold mMv; rw [h]
theorem x_mMvO (h : s[i]? = some (.own v)) : mMv i s = .ok (.own v) (s.set i .emp) := by unfold mMv; rw [h]
theorem x_mPeekF (h : s[i]? = some (.frz v)) : mPeek i s = .ok (.frz v) s := by unfold mPeek; rw [h]
theorem x_mPeekO (h : s[i]? = some (.own v)) : mPeek i s = .ok (.slot i) s := by unfold mPeek; rw [h]
theorem x_mPeekI (h : s[i]? = some (.io v)) : mPeek i s = .ok (.slot i) s := by unfold mPeek; rw [h]
theorem x_isi_ok {T : Ty} (h : isScript v = false) : isiOp T v = some (isiB T v) := by unfold isiOp; rw [h]; rfl
/-! statements -/
theorem x_ss0 : evSs c [] s = .ok .next s := rfl
theorem x_ss1 {a : Stm} {as : List Stm} : evSs c (a :: as) s = thn (evS c a s) fun f => match f with | .next => evSs c as | .brk => pure .brk | .cont => pure .cont | .ret r => pure (.ret r) := rfl
theorem x_sPass : evS c .pass s = .ok .next s := rfl
theorem x_sBrk : evS c .brk s = .ok .brk s := rfl
theorem x_sCont : evS c .cont s = .ok .cont s := rfl
theorem x_sRetN : evS c .retN s = .ok (.ret (.frz .none)) s := rfl
theorem x_sRet {e : E} : evS c (.ret e) s = thn (ev c e s) fun r => match r with | .slot _ => M.stuck | .frz v => pure (.ret (.frz v)) | .own v => pure (.ret (.own v)) := by
  show (do let r ← ev c e; _ : M Flow) s = _
  simp only [bind_def]
  congr 1; funext r; cases r <;> rfl
theorem x_sEx {e : E} : evS c (.ex e) s = thn (ev c e s) fun _ s1 => .ok .next s1 := rfl
theorem x_sAsg {e : E} : evS c (.asg (.name i) e) s = thn (ev c e s) fun r s1 => thn (store i r s1) fun _ s2 => .ok .next s2 := rfl
theorem x_sAsgT {ts : List Tg} {e : E} : evS c (.asg (.tup ts) e) s = thn (ev c e s) fun r s1 => thn (fz r s1) fun v s2 => thn (bindT (.tup ts) v s2) fun _ s3 => .ok .next s3 := rfl
theorem x_sPar {ts : List Nat} {es : List E} : evS c (.par ts es) s = thn (evPar c es s) fun rs s1 => thn (storeAll ts rs s1) fun _ s2 => .ok .next s2 := rfl
theorem x_par0 : evPar c [] s = .ok [] s := rfl
theorem x_par1 {e : E} {es : List E} : evPar c (e :: es) s = thn (ev c e s) fun r => match r with | .slot _ => M.stuck | .frz d => (fun s1 => thn (evPar c es s1) fun rs s2 => .ok (.frz d :: rs) s2) | .own d => (fun s1 => thn (evPar c es s1) fun rs s2 => .ok (.own d :: rs) s2) := rfl
theorem x_sAug {op : Operator} {e : E} : evS c (.aug i op e) s = thn (look i s) fun u s1 => thn (ev c e s1) fun r s2 => thn (opd r s2) fun v s3 => thn (M.opt (match u, v with | .int _, .int _ => binOp op u v | _, _ => none) s3) fun z s4 => thn (store i z s4) fun _ s5 => .ok .next s5 := rfl
theorem x_sSeti {k e : E} : evS c (.seti i k e) s = thn (ev c e s) fun r s1 => thn (fz r s1) fun v s2 => thn (ownVal i s2) fun _ s3 => thn (ev c k s3) fun q s4 => thn (opd q s4) fun j s5 => thn (ownVal i s5) fun u s6 => thn (M.opt (setOp u j v) s6) fun w s7 => thn (setSlot i w s7) fun _ s8 => .ok .next s8 := rfl
theorem x_sMut {m : Mu} {es : List E} : evS c (.mut m i es) s = thn (ownVal i s) fun u0 => if isListV u0 then (fun s1 => thn (evs c es s1) fun rs s2 => thn (fzs rs s2) fun vs s3 => thn (ownVal i s3) fun u s4 => thn (M.opt (muOp m u vs) s4) fun w s5 => thn (setSlot i w s5) fun _ s6 => .ok .next s6) else M.stuck := rfl
theorem x_sIte {t : E} {a b : List Stm} : evS c (.ite t a b) s = thn (ev c t s) fun x s1 => thn (opd x s1) fun u s2 => thn (M.opt (truth u) s2) fun k => if k then evSs c a else evSs c b := rfl
theorem x_sLoop {tg : Tg} {k : ItK} {its : List E} {body : List Stm} : evS c (.loop tg k its body) s = thn (evs c its s) fun rs s1 => thn (fzs rs s1) fun vs s2 => thn (M.opt (items k vs) s2) fun xs => forLoop (turn c tg body) xs := rfl
theorem x_fturn {tg : Tg} {body : List Stm} {x : PV} : turn c tg body x s = thn (bindT tg x s) fun _ => evSs c body := rfl
theorem x_storeF {y : Slot} (h : s[i]? = some y) (hy : isIo y = false) : store i (.frz v) s = .ok () (s.set i (.frz v)) := by
  unfold store; rw [h]; cases y <;> first | rfl | cases hy
theorem x_storeO {y : Slot} (h : s[i]? = some y) (hy : isIo y = false) : store i (.own v) s = .ok () (s.set i (.own v)) := by
  unfold store; rw [h]; cases y <;> first | rfl | cases hy
theorem x_ownO (h : s[i]? = some (.own v)) : ownVal i s = .ok v s := by unfold ownVal; rw [h]
theorem x_ownI (h : s[i]? = some (.io v)) : ownVal i s = .ok v s := by unfold ownVal; rw [h]
theorem x_setO {w : PV} (h : s[i]? = some (.own v)) : setSlot i w s = .ok () (s.set i (.own w)) := by unfold setSlot; rw [h]
theorem x_setI {w : PV} (h : s[i]? = some (.io v)) : setSlot i w s = .ok () (s.set i (.io w)) := by unfold setSlot; rw [h]
theorem x_bindN {v : PV} : bindT (.name i) v s = store i (.frz v) s := rfl
theorem x_bindT {ts : List Tg} {vs : List PV} (h : vs.length = ts.length) : bindT (.tup ts) (.tuple vs) s = bindTs ts vs s := by
  show (if vs.length = ts.length then bindTs ts vs else M.stuck) s = _
  rw [if_pos h]
theorem x_bindTs0 {vs : List PV} : bindTs [] vs s = .ok () s := rfl
theorem x_bindTs1 {t : Tg} {ts : List Tg} {v : PV} {vs : List PV} : bindTs (t :: ts) (v :: vs) s = thn (bindT t v s) fun _ => bindTs ts vs := rfl
theorem x_sta0 : storeAll [] [] s = .ok () s := rfl
theorem x_sta1 {is : List Nat} {r : Rv} {rs : List Rv} : storeAll (i :: is) (r :: rs) s = thn (storeAll is rs s) fun _ => store i r := rfl
/-! calls -/
theorem x_callFn {f : Nat} {rs : List Rv} : callFn c f rs s = thn (passArgs (c.lent f) 0 rs s) fun p => if p.2.Nodup then (fun s1 => thn (M.opt (c.Φ f p.1) s1) fun r s2 => thn (giveBack p.2 r.2 s2) fun _ s3 => .ok r.1 s3) else M.stuck := rfl
theorem x_pass0 {l : List Nat} {k : Nat} : passArgs l k [] s = .ok ([], []) s := rfl
theorem x_pass1 {l : List Nat} {k : Nat} {r : Rv} {rs : List Rv} : passArgs l k (r :: rs) s = thn (passOne l k r s) fun p s1 => thn (passArgs l (k + 1) rs s1) fun q s2 => .ok (p.1 :: q.1, p.2 ++ q.2) s2 := rfl
theorem x_passF {l : List Nat} {k : Nat} (h : l.contains k = false) : passOne l k (.frz v) s = .ok (v, []) s := by unfold passOne; rw [h]; rfl
theorem x_passO {l : List Nat} {k : Nat} (h : l.contains k = false) : passOne l k (.own v) s = .ok (v, []) s := by unfold passOne; rw [h]; rfl
theorem x_passSo {l : List Nat} {k : Nat} (h : l.contains k = true) (hs : s[i]? = some (.own v)) : passOne l k (.slot i) s = .ok (v, [i]) s := by unfold passOne; rw [h]; simp [hs]
theorem x_passSi {l : List Nat} {k : Nat} (h : l.contains k = true) (hs : s[i]? = some (.io v)) : passOne l k (.slot i) s = .ok (v, [i]) s := by unfold passOne; rw [h]; simp [hs]
theorem x_give0 : giveBack [] [] s = .ok () s := rfl
theorem x_giveO {w : PV} {is : List Nat} {vs : List PV} (hs : s[i]? = some (.own w)) : giveBack (i :: is) (v :: vs) s = giveBack is vs (s.set i (.own v)) := by
  show (match s[i]? with | some (.own _) => giveBack is vs (s.set i (.own v)) | some (.io _) => giveBack is vs (s.set i (.io v)) | _ => .stuck) = _
  rw [hs]
theorem x_giveI {w : PV} {is : List Nat} {vs : List PV} (hs : s[i]? = some (.io w)) : giveBack (i :: is) (v :: vs) s = giveBack is vs (s.set i (.io v)) := by
  show (match s[i]? with | some (.own _) => giveBack is vs (s.set i (.own v)) | some (.io _) => giveBack is vs (s.set i (.io v)) | _ => .stuck) = _
  rw [hs]
theorem x_look : look i s = M.opt ((s[i]?).bind slotVal) s := rfl
/-! the same, by what stands in the slot -/
theorem q_mVar : mVar i s = match s[i]? with | some (.frz v) => .ok (.frz v) s | some (.own v) => .ok (.frz v) (s.set i (.frz v)) | _ => .stuck := rfl
theorem q_mMv : mMv i s = match s[i]? with | some (.frz v) => .ok (.frz v) s | some (.own v) => .ok (.own v) (s.set i .emp) | _ => .stuck := rfl
theorem q_mPeek : mPeek i s = match s[i]? with | some (.frz v) => .ok (.frz v) s | some (.own _) => .ok (.slot i) s | some (.io _) => .ok (.slot i) s | _ => .stuck := rfl
theorem q_storeF : store i (.frz v) s = match s[i]? with | some .emp => .ok () (s.set i (.frz v)) | some (.frz _) => .ok () (s.set i (.frz v)) | some (.own _) => .ok () (s.set i (.frz v)) | _ => .stuck := by
  unfold store
  cases s[i]? with
  | none => rfl
  | some y => cases y <;> rfl
theorem q_storeO : store i (.own v) s = match s[i]? with | some .emp => .ok () (s.set i (.own v)) | some (.frz _) => .ok () (s.set i (.own v)) | some (.own _) => .ok () (s.set i (.own v)) | _ => .stuck := by
  unfold store
  cases s[i]? with
  | none => rfl
  | some y => cases y <;> rfl
theorem q_ownVal : ownVal i s = match s[i]? with | some (.own v) => .ok v s | some (.io v) => .ok v s | _ => .stuck := rfl
theorem q_setSlot {w : PV} : setSlot i w s = match s[i]? with | some (.own _) => .ok () (s.set i (.own w)) | some (.io _) => .ok () (s.set i (.io w)) | _ => .stuck := rfl
theorem q_bindT {ts : List Tg} {vs : List PV} : bindT (.tup ts) (.tuple vs) s = if vs.length = ts.length then bindTs ts vs s else .stuck := by
  show (if vs.length = ts.length then bindTs ts vs else M.stuck) s = _
  split <;> rfl
theorem q_pass {l : List Nat} {k : Nat} {r : Rv} : passOne l k r s = if l.contains k then (match r with
    | .slot i => match s[i]? with
      | some (.own v) => .ok (v, [i]) s
      | some (.io v) => .ok (v, [i]) s
      | _ => .stuck
    | _ => .stuck) else thn (fz r s) fun v s1 => .ok (v, []) s1 := rfl
theorem q_give {is : List Nat} {vs : List PV} : giveBack (i :: is) (v :: vs) s = match s[i]? with | some (.own _) => giveBack is vs (s.set i (.own v)) | some (.io _) => giveBack is vs (s.set i (.io v)) | _ => .stuck := rfl
/-- the condition of a branch, run -/
theorem q_ite {α : Type} {b : Bool} {x y : M α} : (if b then x else y) s = if b then x s else y s := by cases b <;> rfl
theorem q_pif {α : Type} {P : Prop} [Decidable P] {x y : M α} : (if P then x else y) s = if P then x s else y s := by split <;> rfl
end
/-! ### operators by their forms -/
section
variable {i j k : Int} {x y z w v : PV} {xs ys : List PV} {a b : Bool}
theorem o_add : binOp .Add (.int i) (.int j) = some (.frz (.int (i + j))) := rfl
theorem o_sub : binOp .Sub (.int i) (.int j) = some (.frz (.int (i - j))) := rfl
theorem o_mul (h : mulOk i j = true) : binOp .Mult (.int i) (.int j) = some (.frz (.int (i * j))) := by show (if mulOk i j then _ else _) = _; rw [if_pos h]
theorem o_div (h : 0 < j) (h2 : j < 2 ^ 4000) : binOp .FloorDiv (.int i) (.int j) = some (.frz (.int (i / j))) := by show (if 0 < j ∧ j < 2 ^ 4000 then _ else _) = _; rw [if_pos ⟨h, h2⟩]
theorem o_mod (h : 0 < j) : binOp .Mod (.int i) (.int j) = some (.frz (.int (i % j))) := by show (if 0 < j then _ else _) = _; rw [if_pos h]
theorem o_catT (h : xs.length + ys.length ≤ lim) : binOp .Add (.tuple xs) (.tuple ys) = some (.frz (.tuple (xs ++ ys))) := by show (if _ then _ else _) = _; rw [if_pos h]
theorem o_catL (h : xs.length + ys.length ≤ lim) : binOp .Add (.list xs) (.list ys) = some (.own (.list (xs ++ ys))) := by show (if _ then _ else _) = _; rw [if_pos h]
theorem c_eq : cmpOp .Eq x y = eqOp x y := rfl
theorem c_ne : cmpOp .NotEq x y = (eqOp x y).map (!·) := rfl
theorem c_lt : cmpOp .Lt (.int i) (.int j) = some (decide (i < j)) := rfl
theorem c_le : cmpOp .LtE (.int i) (.int j) = some (decide (i ≤ j)) := rfl
theorem c_gt : cmpOp .Gt (.int i) (.int j) = some (decide (j < i)) := rfl
theorem c_ge : cmpOp .GtE (.int i) (.int j) = some (decide (j ≤ i)) := rfl
theorem c_isN : cmpOp .Is x .none = some (isNone x) := rfl
theorem c_isnN : cmpOp .IsNot x .none = some (!isNone x) := rfl
theorem c_isB : cmpOp .Is (.bool a) (.bool b) = some (a == b) := rfl
theorem c_isnB : cmpOp .IsNot (.bool a) (.bool b) = some (!(a == b)) := rfl
theorem c_in : cmpOp .In x y = inOp x y := rfl
theorem c_nin : cmpOp .NotIn x y = (inOp x y).map (!·) := rfl
theorem e_int : eqOp (.int i) (.int j) = some (decide (i = j)) := by
  show some (PyData.eqv (.int i) (.int j)) = _
  simp only [PyData.eqv]
  congr 1
theorem e_bool : eqOp (.bool a) (.bool b) = some (a == b) := by
  show some (PyData.eqv (.bool a) (.bool b)) = _
  cases a <;> cases b <;> rfl
theorem t_bool : truth (.bool b) = some b := rfl
theorem t_int : truth (.int i) = some (decide (i ≠ 0)) := rfl
theorem t_none : truth .none = some false := rfl
theorem i_l0 : idxOp (.list (x :: xs)) (.int 0) = some x := by simp [idxOp, Ev.ixN]
theorem i_l1 : idxOp (.list (x :: y :: xs)) (.int 1) = some y := by
  have h : (1 : Int) < ((x :: y :: xs).length : Int) := by simp; omega
  show (Ev.ixN _ 1).bind _ = _
  unfold Ev.ixN
  rw [if_pos (by decide), if_pos h]
  rfl
theorem i_l2 : idxOp (.list (x :: y :: z :: xs)) (.int 2) = some z := by
  have h : (2 : Int) < ((x :: y :: z :: xs).length : Int) := by simp; omega
  show (Ev.ixN _ 2).bind _ = _
  unfold Ev.ixN
  rw [if_pos (by decide), if_pos h]
  rfl
theorem i_t0 : idxOp (.tuple (x :: xs)) (.int 0) = some x := by simp [idxOp, Ev.ixN]
theorem i_t1 : idxOp (.tuple (x :: y :: xs)) (.int 1) = some y := by
  have h : (1 : Int) < ((x :: y :: xs).length : Int) := by simp; omega
  show (Ev.ixN _ 1).bind _ = _
  unfold Ev.ixN
  rw [if_pos (by decide), if_pos h]
  rfl
theorem i_t2 : idxOp (.tuple (x :: y :: z :: xs)) (.int 2) = some z := by
  have h : (2 : Int) < ((x :: y :: z :: xs).length : Int) := by simp; omega
  show (Ev.ixN _ 2).bind _ = _
  unfold Ev.ixN
  rw [if_pos (by decide), if_pos h]
  rfl
theorem ixN_nat {n : Nat} {k : Nat} (h : k < n) : Ev.ixN n (k : Int) = some k := by
  unfold Ev.ixN
  rw [if_pos (by omega), if_pos (by omega)]
  simp
theorem i_lN {k : Nat} (h : xs[k]? = some x) : idxOp (.list xs) (.int (k : Nat)) = some x := by
  show (Ev.ixN _ _).bind _ = _
  rw [ixN_nat (List.getElem?_eq_some_iff.mp h).1]
  exact h
theorem i_tN {k : Nat} (h : xs[k]? = some x) : idxOp (.tuple xs) (.int (k : Nat)) = some x := by
  show (Ev.ixN _ _).bind _ = _
  rw [ixN_nat (List.getElem?_eq_some_iff.mp h).1]
  exact h
theorem s_l0 : setOp (.list (x :: xs)) (.int 0) v = some (.list (v :: xs)) := by
  show (Ev.ixN _ 0).map _ = _
  unfold Ev.ixN
  rw [if_pos (by decide), if_pos (by rw [List.length_cons]; omega)]
  rfl
theorem s_l1 : setOp (.list (x :: y :: xs)) (.int 1) v = some (.list (x :: v :: xs)) := by
  show (Ev.ixN _ 1).map _ = _
  unfold Ev.ixN
  rw [if_pos (by decide), if_pos (by simp; omega)]
  rfl
theorem s_l2 : setOp (.list (x :: y :: z :: xs)) (.int 2) v = some (.list (x :: y :: v :: xs)) := by
  show (Ev.ixN _ 2).map _ = _
  unfold Ev.ixN
  rw [if_pos (by decide), if_pos (by simp; omega)]
  rfl
theorem b_lenL : bltOp .len [.list xs] = some (.frz (.int xs.length)) := rfl
theorem b_lenT : bltOp .len [.tuple xs] = some (.frz (.int xs.length)) := rfl
theorem b_lenS {ns : List Int} : bltOp .len [scriptV ns] = some (.frz (.int ns.length)) := by simp [bltOp, scriptV]
theorem b_abs : bltOp .abs [.int i] = some (.frz (.int (if i < 0 then -i else i))) := rfl
theorem b_min2 : bltOp .min2 [.int i, .int j] = some (.frz (.int (if j < i then j else i))) := rfl
theorem b_max2 : bltOp .max2 [.int i, .int j] = some (.frz (.int (if j > i then j else i))) := rfl
theorem b_intI : bltOp .int [.int i] = some (.frz (.int i)) := rfl
theorem b_intB : bltOp .int [.bool b] = some (.frz (.int (if b then 1 else 0))) := rfl
theorem b_listL : bltOp .list [.list xs] = some (.own (.list xs)) := rfl
theorem b_listT : bltOp .list [.tuple xs] = some (.own (.list xs)) := rfl
theorem b_tupL : bltOp .tuple [.list xs] = some (.frz (.tuple xs)) := rfl
theorem b_repr : bltOp .repr [.bool b] = some (.frz (.str (if b then "True" else "False"))) := rfl
theorem u_app (h : xs.length < lim) : muOp .append (.list xs) [x] = some (.list (xs ++ [x])) := by show (if _ then _ else _) = _; rw [if_pos h]
theorem u_ext (h : xs.length + ys.length ≤ lim) : muOp .extend (.list xs) [.list ys] = some (.list (xs ++ ys)) := by show (if _ then _ else _) = _; rw [if_pos h]
theorem sc_int : isScript (.int i) = false := rfl
theorem sc_bool : isScript (.bool b) = false := rfl
theorem sc_none : isScript .none = false := rfl
theorem sc_list : isScript (.list xs) = false := rfl
theorem sc_tuple : isScript (.tuple xs) = false := rfl
theorem sc_str {z : Str} : isScript (.str z) = false := rfl
theorem sc_dct0 : isScript (.dict []) = false := rfl
theorem it_valT : items .val [.tuple xs] = some xs := rfl
theorem it_valL : items .val [.list xs] = some xs := rfl
theorem it_enmT : items .enm [.tuple xs] = some (xs.zipIdx.map fun p => .tuple [.int (p.2 : Nat), p.1]) := rfl
theorem it_enmL : items .enm [.list xs] = some (xs.zipIdx.map fun p => .tuple [.int (p.2 : Nat), p.1]) := rfl
theorem it_rng {n : Nat} (h : n ≤ lim) : items .rng [.int (n : Nat)] = some ((List.range n).map fun i => .int (i : Nat)) := by
  show (if -(2 ^ 62) ≤ (n : Int) ∧ (n : Int) ≤ lim then _ else _) = _
  rw [if_pos ⟨by omega, by omega⟩]
  simp
end
theorem ct0 : ([0] : List Nat).contains 0 = true := rfl
theorem ct1 {k : Nat} : ([0] : List Nat).contains (k + 1) = false := by simp
theorem nd1 {i : Nat} : [i].Nodup := by simp
theorem mul_l {i j : Int} (h : i.natAbs < 2 ^ 64) : mulOk i j = true := by simp [mulOk, h]
theorem mul_r {i j : Int} (h : j.natAbs < 2 ^ 64) : mulOk i j = true := by simp [mulOk, h]
theorem big62 : (2 : Int) ^ 62 < 2 ^ 4000 := by decide +kernel
theorem big65647 : (65647 : Int) < 2 ^ 4000 := by decide +kernel
/-- a bag of numbers -/
def Ew (e : PV) : Prop := ∃ a b c : Int, e = .list [.int a, .int b, .int c]
theorem no_stars : (∀ i, isStar (.cint i) = false) ∧ (∀ i, isStar (.cbl i) = false) ∧ isStar .cnon = false ∧ (∀ i, isStar (.cstr i) = false) ∧ (∀ i, isStar (.var i) = false) ∧ (∀ i, isStar (.mv i) = false) ∧ (∀ i, isStar (.peek i) = false) ∧ (∀ i, isStar (.glb i) = false)
    ∧ (∀ i j k, isStar (.bin i j k) = false) ∧ (∀ i, isStar (.neg i) = false) ∧ (∀ i, isStar (.not i) = false) ∧ (∀ i j, isStar (.bop i j) = false) ∧ (∀ i j k, isStar (.cmp i j k) = false) ∧ (∀ i j k l m, isStar (.chain i j k l m) = false) ∧ (∀ i j k, isStar (.ite i j k) = false)
    ∧ (∀ i, isStar (.tup i) = false) ∧ (∀ i, isStar (.lst i) = false) ∧ isStar .dct0 = false ∧ (∀ i j, isStar (.idx i j) = false) ∧ (∀ i j, isStar (.slcL i j) = false) ∧ (∀ i j, isStar (.slcH i j) = false) ∧ (∀ i j k, isStar (.slcLH i j k) = false) ∧ (∀ i j, isStar (.isi i j) = false)
    ∧ (∀ i j, isStar (.blt i j) = false) ∧ (∀ i, isStar (.lrng i) = false) ∧ (∀ i j k, isStar (.mth i j k) = false) ∧ (∀ i j, isStar (.call i j) = false) ∧ (∀ i j k l m o, isStar (.lc i j k l m o) = false) :=
  ⟨fun _ => rfl, fun _ => rfl, rfl, fun _ => rfl, fun _ => rfl, fun _ => rfl, fun _ => rfl, fun _ => rfl, fun _ _ _ => rfl, fun _ => rfl, fun _ => rfl, fun _ _ => rfl, fun _ _ _ => rfl, fun _ _ _ _ _ => rfl, fun _ _ _ => rfl,
    fun _ => rfl, fun _ => rfl, rfl, fun _ _ => rfl, fun _ _ => rfl, fun _ _ => rfl, fun _ _ _ => rfl, fun _ _ => rfl, fun _ _ => rfl, fun _ => rfl, fun _ _ _ => rfl, fun _ _ => rfl, fun _ _ _ _ _ _ => rfl⟩
theorem lims : 0 + 1 ≤ lim ∧ 0 + 1 + 1 ≤ lim ∧ 0 + 1 + 1 + 1 ≤ lim ∧ 0 + 1 + 1 + 1 + 1 ≤ lim ∧ 0 + 1 + 1 + 1 + 1 + 1 ≤ lim ∧ 0 + 1 + 1 + 1 + 1 + 1 + 1 ≤ lim ∧ 0 + 1 + 1 + 1 + 1 + 1 + 1 + 1 ≤ lim ∧ 0 + 1 + 1 + 1 + 1 + 1 + 1 + 1 + 1 ≤ lim ∧ 0 + 1 + 1 + 1 + 1 + 1 + 1 + 1 + 1 + 1 ≤ lim ∧ 0 + 1 + 1 + 1 + 1 + 1 + 1 + 1 + 1 + 1 + 1 ≤ lim ∧ 0 + 1 + 1 + 1 + 1 + 1 + 1 + 1 + 1 + 1 + 1 + 1 ≤ lim ∧ 0 + 1 + 1 + 1 + 1 + 1 + 1 + 1 + 1 + 1 + 1 + 1 + 1 ≤ lim ∧ 0 + 1 + 1 + 1 + 1 + 1 + 1 + 1 + 1 + 1 + 1 + 1 + 1 + 1 ≤ lim ∧ 0 + 1 + 1 + 1 + 1 + 1 + 1 + 1 + 1 + 1 + 1 + 1 + 1 + 1 + 1 ≤ lim ∧ 0 + 1 + 1 + 1 + 1 + 1 + 1 + 1 + 1 + 1 + 1 + 1 + 1 + 1 + 1 + 1 ≤ lim := by decide
end Ev

/-! Ev26: numbers in lists and tuples. -/
namespace Ev
open PySem PySem.Spec
theorem canLay_ints : ∀ ns : List Int, PyData.canLayAll0 (ns.map PyData.int) = true
  | [] => by simp [PyData.canLayAll0]
  | n :: ns => by simp [PyData.canLayAll0, PyData.canLay0, canLay_ints ns]
theorem depth_ints : ∀ ns : List Int, PyData.depthAll (ns.map PyData.int) ≤ 1
  | [] => by simp [PyData.depthAll]
  | n :: ns => by
    have := depth_ints ns
    simp only [List.map_cons, PyData.depthAll, PyData.depth]
    omega
theorem shapedL (ns : List Int) : SeqAt.shaped (.list (ns.map .int)) = true := by
  have := depth_ints ns
  simp only [SeqAt.shaped, PyData.canLay0, canLay_ints, PyData.depth, Bool.true_and]
  exact decide_eq_true (by omega)
theorem shapedT (ns : List Int) : SeqAt.shaped (.tuple (ns.map .int)) = true := by
  have := depth_ints ns
  simp only [SeqAt.shaped, PyData.canLay0, canLay_ints, PyData.depth, Bool.true_and]
  exact decide_eq_true (by omega)
theorem eq_LL (as bs : List Int) : eqOp (.list (as.map .int)) (.list (bs.map .int)) = some (decide (as = bs)) := by
  unfold eqOp
  rw [shapedL, shapedL]
  show some (PyData.eqv _ _) = _
  rw [PyData.eqv, PySem.W.ked_eqvAll]
theorem eq_TT (as bs : List Int) : eqOp (.tuple (as.map .int)) (.tuple (bs.map .int)) = some (decide (as = bs)) := by
  unfold eqOp
  rw [shapedT, shapedT]
  show some (PyData.eqv _ _) = _
  rw [PyData.eqv, PySem.W.ked_eqvAll]
theorem eqv_int (i j : Int) : PyData.eqv (.int i) (.int j) = decide (i = j) := by
  have h := e_int (i := i) (j := j)
  injection h
theorem any_int (k : Int) (ns : List Int) : ((ns.map PyData.int).any fun y => PyData.eqv y (.int k)) = decide (k ∈ ns) := by
  induction ns with
  | nil => rfl
  | cons n ns ih =>
    rw [List.map_cons, List.any_cons, ih, eqv_int]
    by_cases h : n = k
    · subst h; simp
    · have h2 : ¬ k = n := fun z => h z.symm
      simp [h, h2]
theorem flat_ints (ns : List Int) : (ns.map PyData.int).all flat = true := by
  induction ns with
  | nil => rfl
  | cons n ns ih => rw [List.map_cons, List.all_cons, ih]; rfl
theorem in_T (k : Int) (ns : List Int) : inOp (.int k) (.tuple (ns.map .int)) = some (decide (k ∈ ns)) := by
  show (if flat (.int k) && (ns.map PyData.int).all flat then some _ else none) = _
  rw [flat_ints, any_int]
  rfl
theorem le_int (i j : Int) : PySem.W.dataLe false id (PyData.int i) (PyData.int j) = decide (i ≤ j) := by
  show (!PyProof.Rows.lexLt PyProof.Rows.itemOrd (PySem.W.keyToks (.int j)) (PySem.W.keyToks (.int i))) = _
  simp only [PySem.W.keyToks, PyProof.Rows.lexLt, PyProof.Rows.itemOrd, PyProof.Rows.itemLt]
  by_cases h : j < i
  · have h2 : ¬ i ≤ j := by omega
    simp [h, h2]
  · have h2 : i ≤ j := by omega
    by_cases h3 : i < j <;> simp [h, h2, h3]
theorem plains_ints : ∀ ns : List Int, plains (ns.map PyData.int) = true
  | [] => rfl
  | n :: ns => by rw [List.map_cons, plains, plains_ints ns]; rfl
theorem sortable_ints (ns : List Int) : sortable (ns.map PyData.int) = true := by
  unfold sortable
  have h1 : ((ns.map PyData.int).all fun d => (ns.map PyData.int).all fun e => PySem.W.alike d e) = true := by
    simp [List.all_eq_true, PySem.W.alike]
  have h2 : ((ns.map PyData.int).all fun d => match d with | .none => false | .tuple _ => false | _ => true) = true := by
    simp [List.all_eq_true]
  have h3 : ((ns.map PyData.int).all fun d => decide (d.depth ≤ 60)) = true := by
    simp [List.all_eq_true, PyData.depth]
  rw [h1, h3, plains_ints]
  have h2' := h2
  simp only [Bool.and_true, Bool.true_and, Bool.or_eq_true]
  exact .inr h2
theorem sorted_pv (ns : List Int) : (ns.map PyData.int).mergeSort (PySem.W.dataLe false id) = (ns.mergeSort fun a b => decide (a ≤ b)).map PyData.int := by
  rw [List.map_mergeSort]
  intro a _ b _
  rw [le_int]
theorem b_sortT (ns : List Int) : bltOp .sorted [.tuple (ns.map .int)] = some (.own (.list ((ns.mergeSort fun a b => decide (a ≤ b)).map .int))) := by
  show (if sortable (ns.map PyData.int) then _ else _) = _
  rw [if_pos (sortable_ints ns), sorted_pv]
theorem b_sortL (ns : List Int) : bltOp .sorted [.list (ns.map .int)] = some (.own (.list ((ns.mergeSort fun a b => decide (a ≤ b)).map .int))) := by
  show (if sortable (ns.map PyData.int) then _ else _) = _
  rw [if_pos (sortable_ints ns), sorted_pv]
theorem ints_map (ns : List Int) : ints? (ns.map PyData.int) = some ns := by
  induction ns with
  | nil => rfl
  | cons n ns ih => rw [List.map_cons, ints?, ih]; rfl
theorem bools_map (bs : List Bool) : bools? (bs.map PyData.bool) = some bs := by
  induction bs with
  | nil => rfl
  | cons n ns ih => rw [List.map_cons, bools?, ih]; rfl
theorem b_sum (ns : List Int) : bltOp .sum [.list (ns.map .int)] = some (.frz (.int ns.sum)) := by
  show (ints? _).map _ = _
  rw [ints_map]; rfl
theorem b_all (bs : List Bool) : bltOp .all [.list (bs.map .bool)] = some (.frz (.bool (bs.all id))) := by
  show (bools? _).map _ = _
  rw [bools_map]; rfl
theorem b_any (bs : List Bool) : bltOp .any [.list (bs.map .bool)] = some (.frz (.bool (bs.any id))) := by
  show (bools? _).map _ = _
  rw [bools_map]; rfl
theorem b_mn (ns : List Int) {m : Int} (h : ns.min? = some m) : bltOp .mn [.list (ns.map .int)] = some (.frz (.int m)) := by
  show (ints? _).bind _ = _
  rw [ints_map]
  show (ns.min?).map _ = _
  rw [h]; rfl
theorem b_mx (ns : List Int) {m : Int} (h : ns.max? = some m) : bltOp .mx [.list (ns.map .int)] = some (.frz (.int m)) := by
  show (ints? _).bind _ = _
  rw [ints_map]
  show (ns.max?).map _ = _
  rw [h]; rfl
theorem m_count (ns : List Int) (k : Int) : mthOp .count (.list (ns.map .int)) [.int k] = some (.frz (.int (ns.count k : Nat))) := by
  show (ints? _).map _ = _
  rw [ints_map]; rfl
theorem m_index (ns : List Int) (k : Int) {j : Nat} (h : ns.findIdx? (fun z => decide (z = k)) = some j) : mthOp .index (.list (ns.map .int)) [.int k] = some (.frz (.int (j : Nat))) := by
  show (if SeqAt.shaped (.list (ns.map PyData.int)) && SeqAt.shaped (.int k) then _ else _) = _
  rw [shapedL, if_pos (by rfl)]
  have e : ((ns.map PyData.int).findIdx? fun z => PyData.eqv z (.int k)) = ns.findIdx? fun z => decide (z = k) := by
    rw [List.findIdx?_map]
    have : ((fun z => PyData.eqv z (.int k)) ∘ PyData.int) = fun z => decide (z = k) := funext fun z => eqv_int z k
    rw [this]
  rw [e, h]
  rfl
theorem rng_ints {m : Int} {n : Nat} (hm : m = n) (h : n ≤ lim) : items .rng [.int m] = some (((List.range n).map fun i : Nat => (i : Int)).map .int) := by
  rw [hm, it_rng h, List.map_map]
  rfl
/-- a loop that keeps a word -/
theorem for_inv {step : PV → M Flow} (P : Nat → Env → Prop) : ∀ {xs : List PV} {i : Nat} {s : Env}, P i s → (∀ k x, xs[k]? = some x → ∀ s, P (i + k) s → ∃ s', step x s = .ok .next s' ∧ P (i + k + 1) s') → ∃ s', forLoop step xs s = .ok .next s' ∧ P (i + xs.length) s'
  | [], i, s, h, _ => ⟨s, rfl, h⟩
  | x :: xs, i, s, h, H => by
    obtain ⟨s1, h1, h2⟩ := H 0 x rfl s h
    obtain ⟨s2, h3, h4⟩ := for_inv P (xs := xs) (i := i + 1) (s := s1) h2 fun k y hy s hs => by
      have := H (k + 1) y (by simpa using hy) s (by rw [show i + (k + 1) = i + 1 + k by omega]; exact hs)
      rw [show i + (k + 1) + 1 = i + 1 + k + 1 by omega] at this
      exact this
    refine ⟨s2, ?_, by rw [List.length_cons, show i + (xs.length + 1) = i + 1 + xs.length by omega]; exact h4⟩
    exact (show (step x s).andThen _ = _ by rw [h1]; exact h3)
end Ev

/-! Mth1: all orders of 0 .. n-1, in plain Lean. -/
namespace Mth
/-- one more place filled -/
def ext (m : Nat) (L : List (List Nat)) : List (List Nat) := L.flatMap fun o => ((List.range m).filter fun t => !o.contains t).map fun t => o ++ [t]
def parts (m : Nat) : Nat → List (List Nat)
  | 0 => [[]]
  | k + 1 => ext m (parts m k)
def ords (m : Nat) : List (List Nat) := parts m m
theorem mem_parts {m : Nat} : ∀ {k : Nat} {o : List Nat}, o ∈ parts m k ↔ o.length = k ∧ o.Nodup ∧ ∀ x ∈ o, x < m
  | 0, o => by
    simp only [parts, List.mem_singleton]
    constructor
    · rintro rfl; simp
    · rintro ⟨h, _⟩; exact List.length_eq_zero_iff.mp h
  | k + 1, o => by
    simp only [parts, ext, List.mem_flatMap, List.mem_map, List.mem_filter, List.mem_range]
    constructor
    · rintro ⟨o', h, t, ⟨ht, hn⟩, rfl⟩
      obtain ⟨h1, h2, h3⟩ := mem_parts.mp h
      have hn : t ∉ o' := by simpa using hn
      refine ⟨by simp [h1], ?_, fun x hx => ?_⟩
      · rw [List.nodup_append]
        exact ⟨h2, by simp, fun a ha b hb => by simp at hb; subst hb; exact fun e => hn (e ▸ ha)⟩
      · rcases List.mem_append.mp hx with hx | hx
        · exact h3 x hx
        · simp at hx; rw [hx]; exact ht
    · rintro ⟨h1, h2, h3⟩
      have hne : o ≠ [] := by intro z; rw [z] at h1; cases h1
      have e := List.dropLast_concat_getLast hne
      rw [← e, List.nodup_append] at h2
      obtain ⟨h4, _, h5⟩ := h2
      refine ⟨o.dropLast, mem_parts.mpr ⟨by simp [h1], h4, fun x hx => h3 x ((List.dropLast_sublist o).subset hx)⟩, o.getLast hne, ⟨h3 _ (List.getLast_mem hne), ?_⟩, e⟩
      have : o.getLast hne ∉ o.dropLast := fun hx => h5 _ hx _ (by simp) rfl
      simpa using this
theorem nodup_parts {m : Nat} : ∀ k : Nat, (parts m k).Nodup
  | 0 => by simp [parts]
  | k + 1 => by
    unfold parts ext
    rw [List.nodup_iff_pairwise_ne, List.pairwise_flatMap]
    refine ⟨fun o ho => ?_, ?_⟩
    · rw [List.pairwise_map]
      have h : ((List.range m).filter fun t => !o.contains t).Pairwise (· ≠ ·) := (List.nodup_iff_pairwise_ne.mp List.nodup_range).sublist List.filter_sublist
      exact h.imp fun hne e => hne (by simpa using e)
    · refine (List.nodup_iff_pairwise_ne.mp (nodup_parts k)).imp ?_
      intro o1 o2 hne x hx y hy e
      simp only [List.mem_map] at hx hy
      obtain ⟨t1, _, rfl⟩ := hx
      obtain ⟨t2, _, rfl⟩ := hy
      exact hne (List.append_inj_left' e rfl)
theorem perm_range_iff {m : Nat} {o : List Nat} : o.Perm (List.range m) ↔ o.length = m ∧ o.Nodup ∧ ∀ x ∈ o, x < m := by
  constructor
  · intro h
    refine ⟨by rw [h.length_eq]; simp, h.nodup_iff.mpr List.nodup_range, fun x hx => by simpa using h.mem_iff.mp hx⟩
  · rintro ⟨h1, h2, h3⟩
    refine (List.perm_ext_iff_of_nodup h2 List.nodup_range).mpr fun a => ⟨fun ha => by simpa using h3 a ha, fun ha => ?_⟩
    refine Classical.byContradiction fun hn => ?_
    have hs : (a :: o) ⊆ List.range m := by
      intro x hx
      rcases List.mem_cons.mp hx with rfl | hx
      · exact ha
      · simpa using h3 x hx
    have := List.Nodup.length_le_of_subset (List.nodup_cons.mpr ⟨hn, h2⟩) hs
    simp [h1] at this
    omega
theorem mem_ords {m : Nat} {o : List Nat} : o ∈ ords m ↔ o.Perm (List.range m) := by
  unfold ords
  rw [mem_parts, perm_range_iff]
theorem nodup_ords (m : Nat) : (ords m).Nodup := nodup_parts m
theorem length_parts_le {m : Nat} : ∀ k : Nat, (parts m k).length ≤ m ^ k
  | 0 => by simp [parts]
  | k + 1 => by
    unfold parts ext
    rw [List.length_flatMap]
    have ih := length_parts_le (m := m) k
    have : ∀ L : List (List Nat), (L.map fun o => (((List.range m).filter fun t => !o.contains t).map fun t => o ++ [t]).length).sum ≤ L.length * m := fun L => by
      induction L with
      | nil => simp
      | cons o L ih =>
        simp only [List.map_cons, List.sum_cons, List.length_map, List.length_cons] at ih ⊢
        have := List.length_filter_le (fun t => !o.contains t) (List.range m)
        rw [List.length_range] at this
        rw [Nat.add_mul]
        omega
    refine Nat.le_trans (this _) ?_
    rw [Nat.pow_succ]
    exact Nat.mul_le_mul_right m ih
/-! ### put in -/
def ins {α : Type} (x : α) : List α → List (List α)
  | [] => [[x]]
  | a :: o => (x :: a :: o) :: (ins x o).map (a :: ·)
theorem mem_ins {α : Type} {x : α} : ∀ {o l : List α}, l ∈ ins x o → ∀ y, y ∈ l ↔ y = x ∨ y ∈ o
  | [], l, h, y => by simp only [ins, List.mem_singleton] at h; rw [h]; simp
  | a :: o, l, h, y => by
    simp only [ins, List.mem_cons, List.mem_map] at h
    rcases h with rfl | ⟨l', h, rfl⟩
    · simp
    · rw [List.mem_cons, mem_ins h y, List.mem_cons]
      constructor
      · rintro (h | h | h) <;> simp [h]
      · rintro (h | h | h) <;> simp [h]
theorem ins_perm {α : Type} {x : α} : ∀ {o l : List α}, l ∈ ins x o → l.Perm (x :: o)
  | [], l, h => by simp only [ins, List.mem_singleton] at h; rw [h]
  | a :: o, l, h => by
    simp only [ins, List.mem_cons, List.mem_map] at h
    rcases h with rfl | ⟨l', h, rfl⟩
    · exact List.Perm.refl _
    · exact ((ins_perm h).cons a).trans (List.Perm.swap x a o)
theorem ins_erase {x : Nat} : ∀ {o l : List Nat}, l ∈ ins x o → x ∉ o → l.erase x = o
  | [], l, h, _ => by simp only [ins, List.mem_singleton] at h; rw [h]; simp
  | a :: o, l, h, hn => by
    simp only [ins, List.mem_cons, List.mem_map] at h
    simp only [List.mem_cons, not_or] at hn
    rcases h with rfl | ⟨l', h, rfl⟩
    · simp
    · have hb : (a == x) = false := beq_eq_false_iff_ne.mpr (Ne.symm hn.1)
      rw [List.erase_cons, hb]
      simp [ins_erase h hn.2]
theorem erase_ins {x : Nat} : ∀ {l : List Nat}, x ∈ l → l ∈ ins x (l.erase x)
  | [], h => by simp at h
  | a :: l, h => by
    by_cases e : a = x
    · subst e
      rw [List.erase_cons_head]
      cases l with
      | nil => simp [ins]
      | cons b l => simp [ins]
    · have hb : (a == x) = false := beq_eq_false_iff_ne.mpr e
      have hx : x ∈ l := by
        rcases List.mem_cons.mp h with h | h
        · exact absurd h.symm e
        · exact h
      rw [List.erase_cons, hb]
      simp only [Bool.false_eq_true, if_false, ins, List.mem_cons, List.mem_map]
      exact .inr ⟨l, erase_ins hx, rfl⟩
theorem ins_nodup {x : Nat} : ∀ {o : List Nat}, x ∉ o → (ins x o).Nodup
  | [], _ => by simp [ins]
  | a :: o, hn => by
    simp only [List.mem_cons, not_or] at hn
    unfold ins
    rw [List.nodup_cons]
    refine ⟨fun h => ?_, ?_⟩
    · simp only [List.mem_map] at h
      obtain ⟨l, _, e⟩ := h
      injection e with e _
      exact hn.1 e.symm
    · rw [List.nodup_iff_pairwise_ne, List.pairwise_map]
      exact (List.nodup_iff_pairwise_ne.mp (ins_nodup hn.2)).imp fun h e => h (by simpa using e)
end Mth

/-! Smith: sums of weighted ends, in plain Lean. -/
namespace Mth
abbrev Jb := Int × Int
def sumW (L : List Jb) : Int := (L.map (·.2)).sum
/-- a row's sum -/
def C : List Jb → Int
  | [] => 0
  | t :: L => t.1 * t.2 + t.1 * sumW L + C L
def jstep (a : Int × Int) (t : Jb) : Int × Int := (a.1 + (a.2 + t.1) * t.2, a.2 + t.1)
theorem fold_C : ∀ (L : List Jb) (a : Int × Int), (L.foldl jstep a).1 = a.1 + a.2 * sumW L + C L
  | [], a => by simp [sumW, C]
  | t :: L, a => by
    rw [List.foldl_cons, fold_C L]
    simp only [jstep, C, sumW, List.map_cons, List.sum_cons]
    generalize (L.map (·.2)).sum = W
    rw [Int.mul_add, Int.add_mul, Int.add_mul]
    omega
/-- the least of a pair's two ways -/
def pr (t o : Jb) : Int := min (t.2 * o.1) (o.2 * t.1)
theorem pr_comm (t o : Jb) : pr t o = pr o t := by unfold pr; rw [Int.min_comm]
def sumP (t : Jb) (L : List Jb) : Int := (L.map (pr t)).sum
def SM : List Jb → Int
  | [] => 0
  | t :: L => t.1 * t.2 + sumP t L + SM L
theorem sum_perm {l1 l2 : List Int} (h : l1.Perm l2) : l1.sum = l2.sum := by
  induction h with
  | nil => rfl
  | cons x _ ih => simp [ih]
  | swap x y l => simp only [List.sum_cons]; omega
  | trans _ _ ih1 ih2 => rw [ih1, ih2]
theorem SM_perm {L1 L2 : List Jb} (h : L1.Perm L2) : SM L1 = SM L2 := by
  induction h with
  | nil => rfl
  | cons x h ih => simp only [SM, ih, sumP]; rw [sum_perm (h.map _)]
  | swap x y l => simp only [SM, sumP, List.map_cons, List.sum_cons, pr_comm y x]; omega
  | trans _ _ ih1 ih2 => rw [ih1, ih2]
/-- t ahead of o costs no more -/
def R (t o : Jb) : Prop := t.1 * o.2 ≤ t.2 * o.1
instance (t o : Jb) : Decidable (R t o) := inferInstanceAs (Decidable (_ ≤ _))
theorem sumP_le (t : Jb) : ∀ L : List Jb, sumP t L ≤ t.1 * sumW L ∧ (sumP t L = t.1 * sumW L ↔ ∀ o ∈ L, R t o)
  | [] => by simp [sumP, sumW]
  | o :: L => by
    obtain ⟨h1, h2⟩ := sumP_le t L
    have e1 : sumP t (o :: L) = pr t o + sumP t L := by simp [sumP]
    have e2 : t.1 * sumW (o :: L) = t.1 * o.2 + t.1 * sumW L := by simp only [sumW, List.map_cons, List.sum_cons]; rw [Int.mul_add]
    rw [e1, e2]
    have e3 : pr t o ≤ t.1 * o.2 := by unfold pr; rw [Int.mul_comm o.2 t.1]; omega
    have e4 : pr t o = t.1 * o.2 ↔ R t o := by unfold pr R; rw [Int.mul_comm o.2 t.1]; omega
    refine ⟨by omega, ?_⟩
    constructor
    · intro h
      have h3 : pr t o = t.1 * o.2 := by omega
      have h4 : sumP t L = t.1 * sumW L := by omega
      intro x hx
      rcases List.mem_cons.mp hx with rfl | hx
      · exact e4.mp h3
      · exact h2.mp h4 x hx
    · intro h
      rw [e4.mpr (h o (by simp)), h2.mpr fun x hx => h x (by simp [hx])]
theorem C_ge : ∀ L : List Jb, SM L ≤ C L ∧ (C L = SM L ↔ L.Pairwise R)
  | [] => by simp [SM, C]
  | t :: L => by
    obtain ⟨h1, h2⟩ := C_ge L
    obtain ⟨h3, h4⟩ := sumP_le t L
    simp only [SM, C]
    refine ⟨by omega, ?_⟩
    rw [List.pairwise_cons]
    constructor
    · intro h
      exact ⟨h4.mp (by omega), h2.mp (by omega)⟩
    · rintro ⟨h5, h6⟩
      have := h4.mpr h5
      have := h2.mpr h6
      omega
def Pos (t : Jb) : Prop := 1 ≤ t.1
theorem R_trans {t u v : Jb} (hu : Pos u) (ht : Pos t) (hv : Pos v) (h1 : R t u) (h2 : R u v) : R t v := by
  unfold R Pos at *
  have a1 : t.1 * u.2 * v.1 ≤ t.2 * u.1 * v.1 := Int.mul_le_mul_of_nonneg_right h1 (by omega)
  have a2 : t.1 * (u.1 * v.2) ≤ t.1 * (u.2 * v.1) := Int.mul_le_mul_of_nonneg_left h2 (by omega)
  have a3 : u.1 * (t.1 * v.2) ≤ u.1 * (t.2 * v.1) := by
    have e1 : u.1 * (t.1 * v.2) = t.1 * (u.1 * v.2) := by rw [← Int.mul_assoc, Int.mul_comm u.1, Int.mul_assoc]
    have e2 : u.1 * (t.2 * v.1) = t.2 * u.1 * v.1 := by rw [← Int.mul_assoc, Int.mul_comm u.1]
    have e3 : t.1 * (u.2 * v.1) = t.1 * u.2 * v.1 := by rw [Int.mul_assoc]
    omega
  exact Int.le_of_mul_le_mul_left a3 (by omega)
theorem R_total (t u : Jb) : R t u ∨ R u t := by
  unfold R
  rw [Int.mul_comm u.1, Int.mul_comm u.2]
  omega
/-- neighbours -/
def adj : List Jb → Prop
  | t :: u :: L => R t u ∧ adj (u :: L)
  | _ => True
theorem adj_iff : ∀ {L : List Jb}, (∀ t ∈ L, Pos t) → (adj L ↔ L.Pairwise R)
  | [], _ => by simp [adj]
  | [t], _ => by simp [adj]
  | t :: u :: L, hp => by
    have ih := adj_iff (L := u :: L) fun x hx => hp x (by simp at hx ⊢; right; exact hx)
    simp only [adj]
    rw [ih, List.pairwise_cons (a := t)]
    constructor
    · rintro ⟨h1, h2⟩
      refine ⟨fun x hx => ?_, h2⟩
      rcases List.mem_cons.mp hx with rfl | hx
      · exact h1
      · exact R_trans (hp u (by simp)) (hp t (by simp)) (hp x (by simp [hx])) h1 ((List.pairwise_cons.mp h2).1 x hx)
    · rintro ⟨h1, h2⟩
      exact ⟨h1 u (by simp), h2⟩
/-! ### by orders of the places -/
def at_ (T : List Jb) (i : Nat) : Jb := T.getD i (1, 0)
def row (T : List Jb) (o : List Nat) : List Jb := o.map (at_ T)
theorem row_range (T : List Jb) : row T (List.range T.length) = T := by
  apply List.ext_getElem
  · simp [row]
  · intro i h1 h2
    simp [row, at_, List.getD, h2]
theorem row_perm {T : List Jb} {o : List Nat} (h : o.Perm (List.range T.length)) : (row T o).Perm T := by
  have := h.map (at_ T)
  rwa [show (List.range T.length).map (at_ T) = T from row_range T] at this
theorem at_pos {T : List Jb} (hp : ∀ t ∈ T, Pos t) (i : Nat) : Pos (at_ T i) := by
  unfold at_ List.getD
  cases h : T[i]? with
  | none => show Pos (1, 0); unfold Pos; omega
  | some t => exact hp t (List.mem_of_getElem? h)
/-- the sum by all pairs is a lower bound; the rows that reach it -/
theorem cost_iff {T : List Jb} {o : List Nat} (h : o.Perm (List.range T.length)) : SM T ≤ C (row T o) ∧ (C (row T o) = SM T ↔ (row T o).Pairwise R) := by
  rw [← SM_perm (row_perm h)]
  exact C_ge _
theorem least_exists {T : List Jb} (hp : ∀ t ∈ T, Pos t) : ∃ o, o.Perm (List.range T.length) ∧ C (row T o) = SM T := by
  let le : Nat → Nat → Bool := fun i j => decide (R (at_ T i) (at_ T j))
  refine ⟨(List.range T.length).mergeSort le, List.mergeSort_perm _ _, (cost_iff (List.mergeSort_perm _ _)).2.mpr ?_⟩
  unfold row
  rw [List.pairwise_map]
  refine (List.pairwise_mergeSort (le := le) (fun a b c h1 h2 => ?_) (fun a b => ?_) _).imp fun h => of_decide_eq_true h
  · exact decide_eq_true (R_trans (at_pos hp b) (at_pos hp a) (at_pos hp c) (of_decide_eq_true h1) (of_decide_eq_true h2))
  · rcases R_total (at_ T a) (at_ T b) with h | h
    · simp [le, h]
    · simp [le, h]
/-! ### how many -/
section
variable (T : List Jb)
def good (o : List Nat) : Bool := decide ((row T o).Pairwise R)
def alike (i j : Nat) : Bool := decide ((at_ T i).1 * (at_ T j).2 = (at_ T j).1 * (at_ T i).2)
def PG : Nat → List (List Nat)
  | 0 => [[]]
  | n + 1 => (PG n).flatMap fun o => (ins n o).filter (good T)
theorem good_cons (a : Nat) (o : List Nat) : good T (a :: o) = ((o.all fun b => decide (R (at_ T a) (at_ T b))) && good T o) := by
  unfold good row
  rw [List.map_cons, Bool.eq_iff_iff]
  simp [List.pairwise_cons, List.all_eq_true]
theorem alike_iff (i j : Nat) : alike T i j = true ↔ R (at_ T i) (at_ T j) ∧ R (at_ T j) (at_ T i) := by
  unfold alike R
  rw [decide_eq_true_eq, Int.mul_comm (at_ T i).2, Int.mul_comm (at_ T j).2]
  omega
theorem ins_count {T : List Jb} (hp : ∀ t ∈ T, Pos t) (x : Nat) : ∀ {o : List Nat}, good T o = true → ((ins x o).filter (good T)).length = 1 + (o.filter fun a => alike T x a).length
  | [], _ => by simp [ins, good, row]
  | a :: o, hg => by
    rw [good_cons, Bool.and_eq_true] at hg
    obtain ⟨ha, hg⟩ := hg
    rw [List.all_eq_true] at ha
    have ha : ∀ b ∈ o, R (at_ T a) (at_ T b) := fun b hb => of_decide_eq_true (ha b hb)
    have ih := ins_count hp x hg
    -- those with a ahead
    have h1 : ((ins x o).map (a :: ·)).filter (good T) = if R (at_ T a) (at_ T x) then ((ins x o).filter (good T)).map (a :: ·) else [] := by
      rw [List.filter_map]
      have e : ∀ l ∈ ins x o, (good T ∘ (a :: ·)) l = (decide (R (at_ T a) (at_ T x)) && good T l) := fun l hl => by
        show good T (a :: l) = _
        rw [good_cons]
        congr 1
        rw [Bool.eq_iff_iff, List.all_eq_true, decide_eq_true_eq]
        constructor
        · intro h
          exact of_decide_eq_true (h x ((mem_ins hl x).mpr (.inl rfl)))
        · intro h y hy
          rcases (mem_ins hl y).mp hy with rfl | hy
          · exact decide_eq_true h
          · exact decide_eq_true (ha y hy)
      rw [List.filter_congr e]
      by_cases hr : R (at_ T a) (at_ T x)
      · simp [hr]
      · simp [hr]
    have h2 : good T (x :: a :: o) = decide (R (at_ T x) (at_ T a)) := by
      rw [good_cons, good_cons, hg, Bool.and_true]
      rw [Bool.eq_iff_iff]
      simp only [Bool.and_eq_true, List.all_eq_true, decide_eq_true_eq, List.mem_cons]
      constructor
      · rintro ⟨h, _⟩; exact h a (.inl rfl)
      · intro h
        refine ⟨fun y hy => ?_, ha⟩
        rcases hy with rfl | hy
        · exact h
        · exact R_trans (at_pos hp a) (at_pos hp x) (at_pos hp y) h (ha y hy)
    have h3 : (ins x (a :: o)).filter (good T) = (if R (at_ T x) (at_ T a) then [x :: a :: o] else []) ++ (if R (at_ T a) (at_ T x) then ((ins x o).filter (good T)).map (a :: ·) else []) := by
      show ((x :: a :: o) :: (ins x o).map (a :: ·)).filter (good T) = _
      rw [List.filter_cons, h1, h2]
      by_cases hr : R (at_ T x) (at_ T a) <;> simp [hr]
    rw [h3, List.length_append]
    by_cases r1 : R (at_ T x) (at_ T a) <;> by_cases r2 : R (at_ T a) (at_ T x)
    · have al : alike T x a = true := (alike_iff T x a).mpr ⟨r1, r2⟩
      rw [if_pos r1, if_pos r2, List.length_map, ih, List.filter_cons, if_pos al]
      simp
      omega
    · have al : alike T x a = false := by
        cases h : alike T x a with
        | false => rfl
        | true => exact absurd ((alike_iff T x a).mp h).2 r2
      have none : (o.filter fun b => alike T x b) = [] := by
        rw [List.filter_eq_nil_iff]
        intro b hb h
        exact r2 (R_trans (at_pos hp b) (at_pos hp a) (at_pos hp x) (ha b hb) ((alike_iff T x b).mp h).2)
      rw [if_pos r1, if_neg r2, List.filter_cons, al, none]
      simp
    · have al : alike T x a = false := by
        cases h : alike T x a with
        | false => rfl
        | true => exact absurd ((alike_iff T x a).mp h).1 r1
      rw [if_neg r1, if_pos r2, List.length_map, ih, List.filter_cons, al]
      simp
    · rcases R_total (at_ T x) (at_ T a) with h | h
      · exact absurd h r1
      · exact absurd h r2
theorem mem_PG : ∀ {n : Nat} {o : List Nat}, o ∈ PG T n ↔ o.Perm (List.range n) ∧ good T o = true
  | 0, o => by
    simp only [PG, List.mem_singleton, List.range_zero, List.perm_nil]
    constructor
    · rintro rfl; exact ⟨rfl, by simp [good, row]⟩
    · exact fun h => h.1
  | n + 1, o => by
    simp only [PG, List.mem_flatMap, List.mem_filter]
    have hr : (List.range (n + 1)).Perm (n :: List.range n) := by rw [List.range_succ]; exact List.perm_append_comm (l₂ := [n])
    constructor
    · rintro ⟨o', h, hi, hg⟩
      obtain ⟨h1, _⟩ := mem_PG.mp h
      exact ⟨(ins_perm hi).trans ((h1.cons n).trans hr.symm), hg⟩
    · rintro ⟨h1, hg⟩
      have hn : n ∈ o := h1.mem_iff.mpr (by simp)
      have he : (n :: o.erase n).Perm (n :: List.range n) := (List.perm_cons_erase hn).symm.trans (h1.trans hr)
      refine ⟨o.erase n, mem_PG.mpr ⟨he.cons_inv, ?_⟩, erase_ins hn, hg⟩
      unfold good row at hg ⊢
      exact decide_eq_true ((of_decide_eq_true hg).sublist (List.erase_sublist.map _))
theorem nodup_PG : ∀ n : Nat, (PG T n).Nodup
  | 0 => by simp [PG]
  | n + 1 => by
    unfold PG
    rw [List.nodup_iff_pairwise_ne, List.pairwise_flatMap]
    have hn : ∀ o ∈ PG T n, n ∉ o := fun o ho hx => by
      have := ((mem_PG T).mp ho).1.mem_iff.mp hx
      simp at this
    refine ⟨fun o ho => (List.nodup_iff_pairwise_ne.mp (ins_nodup (hn o ho))).sublist List.filter_sublist, ?_⟩
    have : (PG T n).Pairwise fun a b => a ∈ PG T n ∧ b ∈ PG T n ∧ a ≠ b := by
      have h := List.nodup_iff_pairwise_ne.mp (nodup_PG n)
      exact List.Pairwise.imp_of_mem (fun ha hb h => ⟨ha, hb, h⟩) h
    refine this.imp ?_
    rintro o1 o2 ⟨m1, m2, hne⟩ x hx y hy e
    simp only [List.mem_filter] at hx hy
    apply hne
    rw [← ins_erase hx.1 (hn o1 m1), ← ins_erase hy.1 (hn o2 m2), e]
/-- the number of the rows without a turned pair -/
def cntO (T : List Jb) : Nat → Nat
  | 0 => 1
  | n + 1 => cntO T n * (1 + ((List.range n).filter fun a => alike T n a).length)
theorem length_PG {T : List Jb} (hp : ∀ t ∈ T, Pos t) : ∀ n : Nat, (PG T n).length = cntO T n
  | 0 => rfl
  | n + 1 => by
    unfold PG cntO
    rw [List.length_flatMap]
    have : ∀ o ∈ PG T n, ((ins n o).filter (good T)).length = 1 + ((List.range n).filter fun a => alike T n a).length := fun o ho => by
      obtain ⟨h1, h2⟩ := (mem_PG T).mp ho
      rw [ins_count hp n h2, (h1.filter _).length_eq]
    rw [List.map_congr_left this]
    rw [← length_PG hp n]
    generalize 1 + ((List.range n).filter fun a => alike T n a).length = k
    generalize PG T n = L
    induction L with
    | nil => simp
    | cons o L ih => simp only [List.map_cons, List.sum_cons, List.length_cons, ih]; rw [Nat.add_mul]; omega
theorem count_good {T : List Jb} (hp : ∀ t ∈ T, Pos t) : ((ords T.length).filter (good T)).length = cntO T T.length := by
  rw [← length_PG hp]
  refine List.Perm.length_eq ((List.perm_ext_iff_of_nodup ?_ (nodup_PG T _)).mpr fun o => ?_)
  · exact List.nodup_iff_pairwise_ne.mpr ((List.nodup_iff_pairwise_ne.mp (nodup_ords _)).sublist List.filter_sublist)
  · rw [List.mem_filter, mem_ords, mem_PG]
end
end Mth

/-! Ev27: loops over what is mapped; slices. -/
namespace Ev
open PySem PySem.Spec
theorem for_map {A B : Type} {step : PV → M Flow} (S : A → Env) (f : B → PV) (g : A → B → A) (P : A → Prop) : ∀ {bs : List B} {a : A}, P a → (∀ a, ∀ b ∈ bs, P a → step (f b) (S a) = .ok .next (S (g a b)) ∧ P (g a b)) → forLoop step (bs.map f) (S a) = .ok .next (S (bs.foldl g a)) ∧ P (bs.foldl g a)
  | [], a, ha, _ => ⟨rfl, ha⟩
  | b :: bs, a, ha, H => by
    obtain ⟨h1, h2⟩ := H a b (by simp) ha
    have ih := for_map S f g P (bs := bs) h2 fun a y hy => H a y (by simp [hy])
    refine ⟨?_, ih.2⟩
    exact (show (step (f b) (S a)).andThen _ = _ by rw [h1]; exact ih.1)
/-- a for of which some turn returns -/
def forFind {A B : Type} (g : A → B → A ⊕ Rv) : List B → A → A ⊕ Rv
  | [], a => .inl a
  | b :: bs, a => match g a b with
    | .inl a' => forFind g bs a'
    | .inr r => .inr r
theorem lc_mapB {B : Type} {vs : List Nat} {f : PV → M (Option PV)} {s0 h : Env} (e : B → PV) (g : B → PV) {bs : List B} (hh : hideM vs s0 = .ok () h) (H : ∀ b ∈ bs, ∃ s', f (e b) h = .ok (some (g b)) s' ∧ hideM vs s' = .ok () h) : lcAll vs f (bs.map e) s0 = .ok (.own (.list (bs.map g))) (restore vs s0 h) := by
  have key : ∀ {bs : List B} {acc : List PV}, (∀ b ∈ bs, ∃ s', f (e b) h = .ok (some (g b)) s' ∧ hideM vs s' = .ok () h) → lcLoop vs f (bs.map e) acc h = .ok (acc ++ bs.map g) h := fun {bs} => by
    induction bs with
    | nil => intro acc _; simp [lcLoop, pure_def]
    | cons b bs ih =>
      intro acc H
      obtain ⟨s', h1, h2⟩ := H b (by simp)
      have ih := ih (acc := acc ++ [g b]) fun y hy => H y (by simp [hy])
      refine (show (f (e b) h).andThen _ = _ by rw [h1]; exact (show (hideM vs s').andThen _ = _ by rw [h2]; exact ih.trans (by simp)))
  unfold lcAll
  exact (show ((hideM vs s0).andThen _).andThen _ = _ by rw [hh, andThen_ok, key H]; rfl)
theorem lc_filB {B : Type} {vs : List Nat} {f : PV → M (Option PV)} {s0 h : Env} (e : B → PV) (q : B → Bool) (g : B → PV) {bs : List B} (hh : hideM vs s0 = .ok () h) (H : ∀ b ∈ bs, ∃ s', f (e b) h = .ok (if q b then some (g b) else none) s' ∧ hideM vs s' = .ok () h) : lcAll vs f (bs.map e) s0 = .ok (.own (.list ((bs.filter q).map g))) (restore vs s0 h) := by
  have key : ∀ {bs : List B} {acc : List PV}, (∀ b ∈ bs, ∃ s', f (e b) h = .ok (if q b then some (g b) else none) s' ∧ hideM vs s' = .ok () h) → lcLoop vs f (bs.map e) acc h = .ok (acc ++ (bs.filter q).map g) h := fun {bs} => by
    induction bs with
    | nil => intro acc _; simp [lcLoop, pure_def]
    | cons b bs ih =>
      intro acc H
      obtain ⟨s', h1, h2⟩ := H b (by simp)
      cases hq : q b with
      | true =>
        rw [hq] at h1
        have ih := ih (acc := acc ++ [g b]) fun y hy => H y (by simp [hy])
        refine (show (f (e b) h).andThen _ = _ by rw [h1]; exact (show (hideM vs s').andThen _ = _ by rw [h2]; exact ih.trans (by simp [hq])))
      | false =>
        rw [hq] at h1
        have ih := ih (acc := acc) fun y hy => H y (by simp [hy])
        refine (show (f (e b) h).andThen _ = _ by rw [h1]; exact (show (hideM vs s').andThen _ = _ by rw [h2]; exact ih.trans (by simp [hq])))
  unfold lcAll
  exact (show ((hideM vs s0).andThen _).andThen _ = _ by rw [hh, andThen_ok, key H]; rfl)
theorem cut_lo {α : Type} (xs : List α) (k : Nat) : cut xs (some (k : Int)) none = xs.drop k := by
  have e : sIx xs.length 0 (some (k : Int)) = min k xs.length := by
    show (if (k : Int) < 0 then ((k : Int) + (xs.length : Int)).toNat else min (k : Int).toNat xs.length) = _
    rw [if_neg (by omega)]; simp
  have e2 : sIx xs.length xs.length none = xs.length := rfl
  unfold cut
  rw [e, e2]
  by_cases h : k ≤ xs.length
  · rw [Nat.min_eq_left h, List.take_of_length_le (by simp)]
  · rw [Nat.min_eq_right (by omega), List.drop_eq_nil_of_le (Nat.le_refl _), List.drop_eq_nil_of_le (by omega)]
    simp
theorem cut_hi {α : Type} (xs : List α) (k : Nat) : cut xs none (some (k : Int)) = xs.take k := by
  have e : sIx xs.length xs.length (some (k : Int)) = min k xs.length := by
    show (if (k : Int) < 0 then ((k : Int) + (xs.length : Int)).toNat else min (k : Int).toNat xs.length) = _
    rw [if_neg (by omega)]; simp
  have e2 : sIx xs.length 0 none = 0 := rfl
  unfold cut
  rw [e, e2, List.drop_zero, Nat.sub_zero]
  by_cases h : k ≤ xs.length
  · rw [Nat.min_eq_left h]
  · rw [Nat.min_eq_right (by omega), List.take_of_length_le (Nat.le_refl _), List.take_of_length_le (by omega)]
theorem l_dropT {xs : List PV} {v : Int} {k : Nat} (h : v = k) : slcOp (some v) none (.tuple xs) = some (.frz (.tuple (xs.drop k))) := by
  subst h
  show some (Rv.frz (.tuple (cut xs _ none))) = _
  rw [cut_lo]
theorem l_takeT {xs : List PV} {v : Int} {k : Nat} (h : v = k) : slcOp none (some v) (.tuple xs) = some (.frz (.tuple (xs.take k))) := by
  subst h
  show some (Rv.frz (.tuple (cut xs none _))) = _
  rw [cut_hi]
theorem min2_eq (i j : Int) : (if j < i then j else i) = min i j := by omega
theorem max2_eq (i j : Int) : (if j > i then j else i) = max i j := by omega
/-! pairs of numbers -/
def tkv (t : Int × Int) : PV := .tuple [.int t.1, .int t.2]
def tk (T : List (Int × Int)) : PV := .tuple (T.map tkv)
def nats (o : List Nat) : List PV := o.map fun (i : Nat) => PyData.int (i : Int)
theorem nats_ints (o : List Nat) : nats o = (o.map fun (i : Nat) => (i : Int)).map .int := by simp [nats]
def odv (o : List Nat) : PV := .tuple (nats o)
theorem at_get {T : List (Int × Int)} {i : Nat} (h : i < T.length) : (T.map tkv)[i]? = some (tkv (Mth.at_ T i)) := by
  rw [List.getElem?_map, List.getElem?_eq_getElem h]
  simp [Mth.at_, List.getD, h]
theorem idx_tk {T : List (Int × Int)} {i : Nat} (h : i < T.length) : idxOp (tk T) (.int (i : Int)) = some (tkv (Mth.at_ T i)) := i_tN (at_get h)
theorem idx_0 (t : Int × Int) : idxOp (tkv t) (.int 0) = some (.int t.1) := i_t0
theorem idx_1 (t : Int × Int) : idxOp (tkv t) (.int 1) = some (.int t.2) := i_t1
end Ev

namespace Lk76
open PySem PySem.Spec L2 Ev
def topS (i : Nat) : Stmt := PySem.Challenge.pw_loadwide_k76_whole_sums_of_weighted_ends.main.body.getD i (.Pass ⟨0, 0, 0, 0⟩)
/-- is_amount_within -/
def b0 : List Ev.S := [
  .ret (.bop .And [.isi .int (.peek 0), .not (.isi .bool (.peek 0)), .chain .LtE .LtE (.peek 1) (.var 0) (.peek 2)])]
def d0 : Ev.Def := ⟨"is_amount_within", 3, [], ["value", "low", "high"], b0⟩
/-- is_whole_order -/
def b1 : List Ev.S := [
  .ite (.bop .Or [.not (.isi .tuple (.peek 1)), .not (.blt .all [.lc [("at", 2)] (.call 0 [.var 2, .cint 0, .bin .Sub (.peek 0) (.cint 1)]) (.name 2) .val [.var 1] []])]) [.ret (.cbl false)] [],
  .ret (.cmp .Eq (.blt .sorted [.peek 1]) (.lrng [.var 0]))]
def d1 : Ev.Def := ⟨"is_whole_order", 2, [], ["many", "value", "at"], b1⟩
/-- ends_sum -/
def b2 : List Ev.S := [
  .asg (.tup [.name 2, .name 3]) (.tup [.cint 0, .cint 0]),
  .loop (.name 4) .val [.var 1] [.aug 3 .Add (.idx (.idx (.peek 0) (.peek 4)) (.cint 0)), .aug 2 .Add (.bin .Mult (.peek 3) (.idx (.idx (.peek 0) (.peek 4)) (.cint 1)))],
  .ret (.mv 2)]
def d2 : Ev.Def := ⟨"ends_sum", 2, [], ["tasks", "order", "found", "end", "at"], b2⟩
/-- smith_sum -/
def b3 : List Ev.S := [
  .asg (.name 1) (.cint 0),
  .loop (.tup [.name 2, .name 3]) .enm [.var 0] [.aug 1 .Add (.bin .Mult (.idx (.peek 3) (.cint 0)) (.idx (.peek 3) (.cint 1))), .aug 1 .Add (.blt .sum [.lc [("other", 4)] (.blt .min2 [.bin .Mult (.idx (.peek 3) (.cint 1)) (.idx (.peek 4) (.cint 0)), .bin .Mult (.idx (.peek 4) (.cint 1)) (.idx (.peek 3) (.cint 0))]) (.name 4) .val [.slcL (.peek 0) (.bin .Add (.peek 2) (.cint 1))] []])],
  .ret (.mv 1)]
def d3 : Ev.Def := ⟨"smith_sum", 1, [], ["tasks", "found", "at", "task", "other"], b3⟩
/-- are_like_tasks -/
def b4 : List Ev.S := [
  .ret (.cmp .Eq (.bin .Mult (.idx (.peek 0) (.cint 0)) (.idx (.peek 1) (.cint 1))) (.bin .Mult (.idx (.peek 1) (.cint 0)) (.idx (.peek 0) (.cint 1))))]
def d4 : Ev.Def := ⟨"are_like_tasks", 2, [], ["one", "other"], b4⟩
/-- count_least_orders -/
def b5 : List Ev.S := [
  .asg (.name 1) (.cint 1),
  .loop (.tup [.name 2, .name 3]) .enm [.var 0] [.aug 1 .Mult (.bin .Add (.cint 1) (.blt .len [.lc [("other", 4)] (.var 4) (.name 4) .val [.slcH (.peek 0) (.var 2)] [.call 4 [.var 3, .var 4]]]))],
  .ret (.mv 1)]
def d5 : Ev.Def := ⟨"count_least_orders", 1, [], ["tasks", "found", "at", "task", "other"], b5⟩
/-- are_amount_pairs -/
def b6 : List Ev.S := [
  .ite (.bop .Or [.not (.isi .tuple (.peek 0)), .not (.chain .LtE .LtE (.cint 1) (.blt .len [.peek 0]) (.peek 1))]) [.ret (.cbl false)] [],
  .loop (.name 4) .val [.var 0] [.ite (.bop .Or [.not (.isi .tuple (.peek 4)), .cmp .NotEq (.blt .len [.peek 4]) (.cint 2)]) [.ret (.cbl false)] [], .ite (.bop .Or [.not (.call 0 [.idx (.peek 4) (.cint 0), .cint 1, .glb 0]), .not (.call 0 [.idx (.peek 4) (.cint 1), .var 2, .var 3])]) [.ret (.cbl false)] []],
  .ret (.cbl true)]
def d6 : Ev.Def := ⟨"are_amount_pairs", 4, [], ["value", "most", "low", "high", "pair"], b6⟩
/-- require_weighed -/
def b7 : List Ev.S := [
  .ite (.not (.call 6 [.var 0, .glb 1, .cint 0, .glb 2])) [.never] []]
def d7 : Ev.Def := ⟨"require_weighed", 1, [], ["tasks"], b7⟩
/-- require_whole_order -/
def b8 : List Ev.S := [
  .ite (.not (.call 1 [.blt .len [.peek 0], .var 1])) [.never] []]
def d8 : Ev.Def := ⟨"require_whole_order", 2, [], ["tasks", "order"], b8⟩
/-- sum_of -/
def b9 : List Ev.S := [
  .ex (.call 7 [.var 0]),
  .ex (.call 8 [.var 0, .var 1]),
  .ret (.call 2 [.var 0, .var 1])]
def d9 : Ev.Def := ⟨"sum_of", 2, [], ["tasks", "order"], b9⟩
/-- least_sum -/
def b10 : List Ev.S := [
  .ex (.call 7 [.var 0]),
  .ret (.call 3 [.var 0])]
def d10 : Ev.Def := ⟨"least_sum", 1, [], ["tasks"], b10⟩
/-- is_least_order -/
def b11 : List Ev.S := [
  .ex (.call 7 [.var 0]),
  .ret (.bop .And [.call 1 [.blt .len [.peek 0], .var 1], .cmp .Eq (.call 2 [.var 0, .var 1]) (.call 3 [.var 0])])]
def d11 : Ev.Def := ⟨"is_least_order", 2, [], ["tasks", "value"], b11⟩
/-- count_least -/
def b12 : List Ev.S := [
  .ex (.call 7 [.var 0]),
  .ret (.call 5 [.var 0])]
def d12 : Ev.Def := ⟨"count_least", 1, [], ["tasks"], b12⟩
/-- _law_ewer -/
def b13 : List Ev.S := [
  .asg (.name 2) (.ite (.cmp .Lt (.peek 1) (.blt .len [.peek 0])) (.blt .int [.idx (.peek 0) (.peek 1)]) (.bin .Add (.bin .Mult (.cint 827) (.peek 1)) (.cint 61))),
  .asg (.name 3) (.bin .Mod (.blt .int [.blt .abs [.peek 2]]) (.bin .Pow (.bin .Pow (.cint 10) (.cint 47)) (.cint 7))),
  .asg (.name 4) (.bin .Add (.bin .Add (.bin .Add (.bin .Mult (.bin .Mod (.blt .int [.peek 3]) (.cint 2305843009213693907)) (.cint 113)) (.bin .Mult (.cint 1123) (.peek 1))) (.bin .Mult (.cint 53) (.blt .int [.cmp .Lt (.peek 2) (.cint 0)]))) (.cint 29)),
  .ret (.lst [.blt .max2 [.cint 0, .bin .Sub (.peek 3) (.bin .Pow (.cint 10) (.cint 16))], .var 4, .cint 0])]
def d13 : Ev.Def := ⟨"_law_ewer", 2, [], ["script", "spot", "cell", "great", "mixed"], b13⟩
/-- _law_drip -/
def b14 : List Ev.S := [
  .ite (.cmp .Gt (.idx (.peek 0) (.cint 0)) (.cint 0)) [.asg (.name 2) (.bin .Mod (.blt .int [.idx (.peek 0) (.cint 0)]) (.peek 1)), .seti 0 (.cint 0) (.bin .FloorDiv (.idx (.peek 0) (.cint 0)) (.peek 1)), .ret (.mv 2)] [],
  .seti 0 (.cint 2) (.bin .Add (.idx (.peek 0) (.cint 2)) (.cint 1)),
  .asg (.name 3) (.bin .Mod (.blt .int [.bin .Add (.idx (.peek 0) (.cint 1)) (.bin .Mult (.cint 32452843) (.idx (.peek 0) (.cint 2)))]) (.cint 2305843009213693951)),
  .asg (.name 4) (.bin .Add (.bin .Mult (.bin .Mod (.blt .int [.bin .Add (.bin .Mult (.peek 3) (.peek 3)) (.bin .Mult (.cint 317) (.idx (.peek 0) (.cint 2)))]) (.cint 2305843009213693921)) (.cint 15485867)) (.peek 3)),
  .ret (.bin .Mod (.blt .int [.bin .FloorDiv (.peek 4) (.cint 65647)]) (.peek 1))]
def d14 : Ev.Def := ⟨"_law_drip", 2, [0], ["ewer", "total", "found", "one", "two"], b14⟩
/-- _law_sip -/
def b15 : List Ev.S := [
  .ret (.idx (.peek 1) (.call 14 [.peek 0, .blt .len [.peek 1]]))]
def d15 : Ev.Def := ⟨"_law_sip", 2, [0], ["ewer", "items"], b15⟩
/-- _law_is_integer -/
def b16 : List Ev.S := [
  .ret (.bop .And [.isi .int (.peek 0), .not (.isi .bool (.peek 0))])]
def d16 : Ev.Def := ⟨"_law_is_integer", 1, [], ["value"], b16⟩
/-- _law_orders -/
def b17 : List Ev.S := [
  .asg (.name 1) (.lst [.tup []]),
  .loop (.name 2) .rng [.var 0] [.asg (.name 3) (.lst []), .loop (.name 4) .val [.var 1] [.mut .extend 3 [.lc [("task", 5)] (.bin .Add (.peek 4) (.tup [.var 5])) (.name 5) .rng [.var 0] [.cmp .NotIn (.peek 5) (.peek 4)]]], .asg (.name 1) (.blt .list [.peek 3])],
  .ret (.mv 1)]
def d17 : Ev.Def := ⟨"_law_orders", 1, [], ["many", "found", "turn", "later", "order", "task"], b17⟩
/-- _law_is_order -/
def b18 : List Ev.S := [
  .ite (.bop .Or [.not (.isi .tuple (.peek 1)), .cmp .NotEq (.blt .len [.peek 1]) (.peek 0)]) [.ret (.cbl false)] [],
  .ite (.cmp .NotEq (.lc [("one", 2)] (.cint 1) (.name 2) .val [.var 1] [.not (.call 16 [.var 2])]) (.lst [])) [.ret (.cbl false)] [],
  .ret (.cmp .Eq (.blt .sorted [.peek 1]) (.lrng [.var 0]))]
def d18 : Ev.Def := ⟨"_law_is_order", 2, [], ["many", "value", "one"], b18⟩
/-- _law_weighed -/
def b19 : List Ev.S := [
  .par [2, 3] [.call 15 [.peek 0, .lst [.cint 3, .cint 6, .cint 99]], .lst []],
  .loop (.name 4) .rng [.var 1] [.mut .append 3 [.tup [.bin .Add (.cint 1) (.call 14 [.peek 0, .var 2]), .call 14 [.peek 0, .bin .Add (.peek 2) (.cint 1)]]], .ite (.cmp .Eq (.call 14 [.peek 0, .cint 4]) (.cint 0)) [.seti 3 (.neg (.cint 1)) (.tup [.blt .min2 [.cint 99, .bin .Mult (.cint 2) (.idx (.idx (.peek 3) (.cint 0)) (.cint 0))], .blt .min2 [.cint 99, .bin .Mult (.cint 2) (.idx (.idx (.peek 3) (.cint 0)) (.cint 1))]])] []],
  .ret (.blt .tuple [.peek 3])]
def d19 : Ev.Def := ⟨"_law_weighed", 2, [0], ["ewer", "many", "most", "found", "turn"], b19⟩
/-- _law_sum -/
def b20 : List Ev.S := [
  .asg (.tup [.name 2, .name 3]) (.tup [.cint 0, .cint 0]),
  .loop (.name 4) .val [.var 1] [.asg (.name 2) (.bin .Add (.peek 2) (.idx (.idx (.peek 0) (.peek 4)) (.cint 0))), .asg (.name 3) (.bin .Add (.peek 3) (.bin .Mult (.peek 2) (.idx (.idx (.peek 0) (.peek 4)) (.cint 1))))],
  .ret (.mv 3)]
def d20 : Ev.Def := ⟨"_law_sum", 2, [], ["tasks", "order", "end", "found", "task"], b20⟩
/-- _law_right -/
def b21 : List Ev.S := [
  .asg (.name 1) (.bin .Add (.cint 1) (.call 14 [.peek 0, .cint 6])),
  .asg (.name 2) (.call 19 [.peek 0, .var 1]),
  .asg (.name 3) (.call 17 [.var 1]),
  .asg (.name 4) (.lc [("order", 7)] (.call 20 [.var 2, .var 7]) (.name 7) .val [.var 3] []),
  .asg (.name 5) (.blt .mn [.peek 4]),
  .ite (.bop .Or [.cmp .NotEq (.call 10 [.var 2]) (.peek 5), .cmp .NotEq (.call 12 [.var 2]) (.mth .count (.peek 4) [.peek 5])]) [.ret (.cbl false)] [],
  .loop (.tup [.name 6, .name 7]) .enm [.var 3] [.asg (.name 8) (.lc [("i", 14), ("j", 15)] (.cint 1) (.tup [.name 14, .name 15]) .zip [.var 7, .slcL (.peek 7) (.cint 1)] [.cmp .Gt (.bin .Mult (.idx (.idx (.peek 2) (.peek 15)) (.cint 1)) (.idx (.idx (.peek 2) (.peek 14)) (.cint 0))) (.bin .Mult (.idx (.idx (.peek 2) (.peek 14)) (.cint 1)) (.idx (.idx (.peek 2) (.peek 15)) (.cint 0)))]), .ite (.cmp .NotEq (.cmp .Eq (.idx (.peek 4) (.peek 6)) (.peek 5)) (.cmp .Eq (.peek 8) (.lst []))) [.ret (.cbl false)] []],
  .loop (.name 9) .rng [.cint 12] [.asg (.name 6) (.call 14 [.peek 0, .blt .len [.peek 3]]), .ite (.bop .Or [.cmp .NotEq (.call 9 [.var 2, .idx (.peek 3) (.peek 6)]) (.idx (.peek 4) (.peek 6)), .cmp .NotEq (.call 11 [.var 2, .idx (.peek 3) (.peek 6)]) (.cmp .Eq (.idx (.peek 4) (.peek 6)) (.peek 5))]) [.ret (.cbl false)] []],
  .asg (.name 10) (.idx (.peek 3) (.mth .index (.peek 4) [.peek 5])),
  .ite (.cmp .IsNot (.call 11 [.var 2, .var 10]) (.cbl true)) [.ret (.cbl false)] [],
  .asg (.name 11) (.lst [.blt .list [.peek 10], .slcL (.peek 10) (.cint 1), .bin .Add (.peek 10) (.tup [.cint 0]), .tup [], .cnon, .cint 0, .bin .Add (.slcH (.peek 10) (.neg (.cint 1))) (.tup [.cbl true]), .bin .Add (.slcH (.peek 10) (.neg (.cint 1))) (.tup [.var 1])]),
  .asg (.name 11) (.bin .Add (.peek 11) (.lst [.bin .Add (.slcH (.peek 10) (.neg (.cint 1))) (.tup [.cnon]), .dct0])),
  .loop (.name 12) .val [.var 11] [.ite (.cmp .NotEq (.blt .repr [.call 11 [.var 2, .var 12]]) (.blt .repr [.call 22 [.var 2, .var 12, .var 5]])) [.ret (.cbl false)] []],
  .ite (.bop .And [.cmp .Gt (.peek 1) (.cint 1), .cmp .Gt (.bin .Add (.call 10 [.slcL (.peek 2) (.cint 1)]) (.bin .Mult (.idx (.idx (.peek 2) (.cint 0)) (.cint 0)) (.idx (.idx (.peek 2) (.cint 0)) (.cint 1)))) (.peek 5)]) [.ret (.cbl false)] [],
  .asg (.name 13) (.blt .tuple [.lc [("length", 16), ("weight", 17)] (.tup [.bin .Mult (.cint 2) (.peek 16), .var 17]) (.tup [.name 16, .name 17]) .val [.var 2] [.cmp .Lt (.bin .Mult (.cint 2) (.peek 16)) (.cint 100)]]),
  .ret (.bop .Or [.cmp .Lt (.blt .len [.peek 13]) (.peek 1), .cmp .Eq (.call 10 [.var 13]) (.bin .Mult (.cint 2) (.peek 5))])]
def d21 : Ev.Def := ⟨"_law_right", 1, [0], ["ewer", "many", "tasks", "orders", "sums", "least", "at", "order", "turned", "turn", "good", "odd_items", "odd", "twice", "i", "j", "length", "weight"], b21⟩
/-- _law_is_true -/
def b22 : List Ev.S := [
  .ret (.bop .And [.call 18 [.blt .len [.peek 0], .var 1], .cmp .Eq (.call 20 [.var 0, .var 1]) (.peek 2)])]
def d22 : Ev.Def := ⟨"_law_is_true", 3, [], ["tasks", "value", "least"], b22⟩
/-- law -/
def b23 : List Ev.S := [
  .loop (.name 1) .rng [.blt .max2 [.cint 1, .blt .min2 [.cint 3, .blt .len [.peek 0]]]] [.asg (.name 2) (.call 13 [.var 0, .var 1]), .loop (.name 3) .rng [.cint 4] [.ite (.not (.call 21 [.peek 2])) [.ret (.cbl false)] []]],
  .asg (.name 4) (.tup [.tup [.cint 2, .cint 1], .tup [.cint 1, .cint 3]]),
  .asg (.name 5) (.lst [.call 9 [.var 4, .tup [.cint 0, .cint 1]], .call 10 [.var 4], .call 11 [.var 4, .tup [.cint 1, .cint 0]], .call 12 [.tup [.tup [.cint 1, .cint 1], .tup [.cint 2, .cint 2], .tup [.cint 1, .cint 0]]]]),
  .ret (.bop .And [.cmp .Eq (.peek 5) (.lst [.cint 11, .cint 6, .cbl true, .cint 2]), .cmp .Eq (.call 12 [.tup [.tup [.cint 1, .cint 0], .tup [.cint 5, .cint 0]]]) (.cint 2), .cmp .Eq (.call 12 [.bin .Mult (.tup [.tup [.cint 1, .cint 1]]) (.cint 9)]) (.cint 362880)])]
def d23 : Ev.Def := ⟨"law", 1, [], ["script", "spot", "ewer", "turn", "two", "told"], b23⟩
def prg : Prg := ⟨[d0, d1, d2, d3, d4, d5, d6, d7, d8, d9, d10, d11, d12, d13, d14, d15, d16, d17, d18, d19, d20, d21, d22, d23], [.int 99, .int 9, .int 99]⟩
def fns : List Str := ["is_amount_within", "is_whole_order", "ends_sum", "smith_sum", "are_like_tasks", "count_least_orders", "are_amount_pairs", "require_weighed", "require_whole_order", "sum_of", "least_sum", "is_least_order", "count_least", "_law_ewer", "_law_drip", "_law_sip", "_law_is_integer", "_law_orders", "_law_is_order", "_law_weighed", "_law_sum", "_law_right", "_law_is_true", "law"]
def gs : List Str := ["MOST_SPAN", "MOST_WEIGHED", "MOST_WEIGHT"]
theorem ok0 : defOk fns gs d0 (topS 8) = true := by decide +kernel
theorem sc0 : FnScope d0.N (d0.N.take d0.np) (defScope (topS 8)) := ⟨rfl, rfl, rfl, by decide +kernel, rfl, by decide +kernel, by decide +kernel⟩
theorem ok1 : defOk fns gs d1 (topS 9) = true := by decide +kernel
theorem sc1 : FnScope d1.N (d1.N.take d1.np) (defScope (topS 9)) := ⟨rfl, rfl, rfl, by decide +kernel, rfl, by decide +kernel, by decide +kernel⟩
theorem ok2 : defOk fns gs d2 (topS 10) = true := by decide +kernel
theorem sc2 : FnScope d2.N (d2.N.take d2.np) (defScope (topS 10)) := ⟨rfl, rfl, rfl, by decide +kernel, rfl, by decide +kernel, by decide +kernel⟩
theorem ok3 : defOk fns gs d3 (topS 11) = true := by decide +kernel
theorem sc3 : FnScope d3.N (d3.N.take d3.np) (defScope (topS 11)) := ⟨rfl, rfl, rfl, by decide +kernel, rfl, by decide +kernel, by decide +kernel⟩
theorem ok4 : defOk fns gs d4 (topS 12) = true := by decide +kernel
theorem sc4 : FnScope d4.N (d4.N.take d4.np) (defScope (topS 12)) := ⟨rfl, rfl, rfl, by decide +kernel, rfl, by decide +kernel, by decide +kernel⟩
theorem ok5 : defOk fns gs d5 (topS 13) = true := by decide +kernel
theorem sc5 : FnScope d5.N (d5.N.take d5.np) (defScope (topS 13)) := ⟨rfl, rfl, rfl, by decide +kernel, rfl, by decide +kernel, by decide +kernel⟩
theorem ok6 : defOk fns gs d6 (topS 14) = true := by decide +kernel
theorem sc6 : FnScope d6.N (d6.N.take d6.np) (defScope (topS 14)) := ⟨rfl, rfl, rfl, by decide +kernel, rfl, by decide +kernel, by decide +kernel⟩
theorem ok7 : defOk fns gs d7 (topS 15) = true := by decide +kernel
theorem sc7 : FnScope d7.N (d7.N.take d7.np) (defScope (topS 15)) := ⟨rfl, rfl, rfl, by decide +kernel, rfl, by decide +kernel, by decide +kernel⟩
theorem ok8 : defOk fns gs d8 (topS 16) = true := by decide +kernel
theorem sc8 : FnScope d8.N (d8.N.take d8.np) (defScope (topS 16)) := ⟨rfl, rfl, rfl, by decide +kernel, rfl, by decide +kernel, by decide +kernel⟩
theorem ok9 : defOk fns gs d9 (topS 17) = true := by decide +kernel
theorem sc9 : FnScope d9.N (d9.N.take d9.np) (defScope (topS 17)) := ⟨rfl, rfl, rfl, by decide +kernel, rfl, by decide +kernel, by decide +kernel⟩
theorem ok10 : defOk fns gs d10 (topS 18) = true := by decide +kernel
theorem sc10 : FnScope d10.N (d10.N.take d10.np) (defScope (topS 18)) := ⟨rfl, rfl, rfl, by decide +kernel, rfl, by decide +kernel, by decide +kernel⟩
theorem ok11 : defOk fns gs d11 (topS 19) = true := by decide +kernel
theorem sc11 : FnScope d11.N (d11.N.take d11.np) (defScope (topS 19)) := ⟨rfl, rfl, rfl, by decide +kernel, rfl, by decide +kernel, by decide +kernel⟩
theorem ok12 : defOk fns gs d12 (topS 20) = true := by decide +kernel
theorem sc12 : FnScope d12.N (d12.N.take d12.np) (defScope (topS 20)) := ⟨rfl, rfl, rfl, by decide +kernel, rfl, by decide +kernel, by decide +kernel⟩
theorem ok13 : defOk fns gs d13 (topS 22) = true := by decide +kernel
theorem sc13 : FnScope d13.N (d13.N.take d13.np) (defScope (topS 22)) := ⟨rfl, rfl, rfl, by decide +kernel, rfl, by decide +kernel, by decide +kernel⟩
theorem ok14 : defOk fns gs d14 (topS 23) = true := by decide +kernel
theorem sc14 : FnScope d14.N (d14.N.take d14.np) (defScope (topS 23)) := ⟨rfl, rfl, rfl, by decide +kernel, rfl, by decide +kernel, by decide +kernel⟩
theorem ok15 : defOk fns gs d15 (topS 24) = true := by decide +kernel
theorem sc15 : FnScope d15.N (d15.N.take d15.np) (defScope (topS 24)) := ⟨rfl, rfl, rfl, by decide +kernel, rfl, by decide +kernel, by decide +kernel⟩
theorem ok16 : defOk fns gs d16 (topS 25) = true := by decide +kernel
theorem sc16 : FnScope d16.N (d16.N.take d16.np) (defScope (topS 25)) := ⟨rfl, rfl, rfl, by decide +kernel, rfl, by decide +kernel, by decide +kernel⟩
theorem ok17 : defOk fns gs d17 (topS 26) = true := by decide +kernel
theorem sc17 : FnScope d17.N (d17.N.take d17.np) (defScope (topS 26)) := ⟨rfl, rfl, rfl, by decide +kernel, rfl, by decide +kernel, by decide +kernel⟩
theorem ok18 : defOk fns gs d18 (topS 27) = true := by decide +kernel
theorem sc18 : FnScope d18.N (d18.N.take d18.np) (defScope (topS 27)) := ⟨rfl, rfl, rfl, by decide +kernel, rfl, by decide +kernel, by decide +kernel⟩
theorem ok19 : defOk fns gs d19 (topS 28) = true := by decide +kernel
theorem sc19 : FnScope d19.N (d19.N.take d19.np) (defScope (topS 28)) := ⟨rfl, rfl, rfl, by decide +kernel, rfl, by decide +kernel, by decide +kernel⟩
theorem ok20 : defOk fns gs d20 (topS 29) = true := by decide +kernel
theorem sc20 : FnScope d20.N (d20.N.take d20.np) (defScope (topS 29)) := ⟨rfl, rfl, rfl, by decide +kernel, rfl, by decide +kernel, by decide +kernel⟩
theorem ok21 : defOk fns gs d21 (topS 30) = true := by decide +kernel
theorem sc21 : FnScope d21.N (d21.N.take d21.np) (defScope (topS 30)) := ⟨rfl, rfl, rfl, by decide +kernel, rfl, by decide +kernel, by decide +kernel⟩
theorem ok22 : defOk fns gs d22 (topS 31) = true := by decide +kernel
theorem sc22 : FnScope d22.N (d22.N.take d22.np) (defScope (topS 31)) := ⟨rfl, rfl, rfl, by decide +kernel, rfl, by decide +kernel, by decide +kernel⟩
theorem ok23 : defOk fns gs d23 (topS 32) = true := by decide +kernel
theorem sc23 : FnScope d23.N (d23.N.take d23.np) (defScope (topS 32)) := ⟨rfl, rfl, rfl, by decide +kernel, rfl, by decide +kernel, by decide +kernel⟩
theorem lent_cf {n f : Nat} : (prg.cf n).lent f = prg.lent f := rfl
theorem phi_cf {n : Nat} : (prg.cf n).Φ = prg.Φ n := rfl
theorem g_cf {n : Nat} : (prg.cf n).G = prg.G := rfl
local macro_rules | `(tactic| trivial) => `(tactic| simp only [↓x_cint, ↓x_cbl, ↓x_cnon, ↓x_cstr, ↓x_var, ↓x_mv, ↓x_peek, ↓x_glb, ↓x_bin, ↓x_neg, ↓x_not, ↓x_bop, ↓x_cmp, ↓x_chain, ↓x_ite, ↓x_tup, ↓x_lst, ↓x_dct0, ↓x_idx, ↓x_slcL, ↓x_slcH, ↓x_isi, ↓x_blt, ↓x_lrng, ↓x_mth, ↓x_call, ↓x_lc, ↓x_turn, ↓x_evB1, ↓x_and, ↓x_or, ↓x_evs0, ↓x_evs1, ↓x_evA0, ↓x_evA1, ↓x_evT0, ↓x_evT1, ↓x_opdF, ↓x_opdO, ↓x_opdS, ↓x_fzF, ↓x_fzO, ↓x_opds0, ↓x_opds1, ↓x_fzs0, ↓x_fzs1, ↓x_pure, x_opt, ↓q_mVar, ↓q_mMv, ↓q_mPeek, x_isi_ok, ↓x_ss0, ↓x_ss1, ↓x_sPass, ↓x_sBrk, ↓x_sCont, ↓x_sRetN, ↓x_sRet, ↓x_sEx, ↓x_sAsg, ↓x_sAsgT, ↓x_sPar, ↓x_par0, ↓x_par1, ↓x_sAug, ↓x_sSeti, ↓x_sMut, ↓x_sIte, ↓x_sLoop, ↓x_fturn, ↓q_storeF, ↓q_storeO, ↓q_ownVal, ↓q_setSlot, ↓x_bindN, ↓q_bindT, ↓x_bindTs0, ↓x_bindTs1, ↓x_sta0, ↓x_sta1, ↓x_callFn, ↓x_pass0, ↓x_pass1, ↓q_pass, ↓x_give0, ↓q_give, ↓q_ite, ↓q_pif, ↓x_look, thn_ok, o_add, o_sub, o_mul, o_div, o_mod, o_catT, o_catL, c_eq, c_ne, c_lt, c_le, c_gt, c_ge, c_isN, c_isnN, c_isB, c_isnB, c_in, c_nin, e_int, e_bool, t_bool, t_int, t_none, i_l0, i_l1, i_l2, i_t0, i_t1, i_t2, s_l0, s_l1, s_l2, b_lenL, b_lenT, b_lenS, b_abs, b_min2, b_max2, b_intI, b_intB, b_listL, b_listT, b_tupL, b_repr, u_app, u_ext, sc_int, sc_bool, sc_none, sc_list, sc_tuple, sc_str, sc_dct0, it_valT, it_valL, it_enmT, it_enmL, lent_cf, phi_cf, g_cf, List.getElem?_cons_zero, List.getElem?_cons_succ, Option.bind_some, Option.map_some, slotVal, isIo, no_stars, lims, Nat.zero_le, isListV, List.set_cons_zero, List.set_cons_succ, isiB, if_true, if_false, Bool.not_true, Bool.not_false, Bool.false_eq_true, reduceIte, List.length_cons, List.length_nil, List.map_cons, List.map_nil, List.nodup_nil, List.append_nil, List.nil_append, List.contains_nil, ct0, ct1, nd1, List.cons_append, Bool.true_eq_false, decide_true, decide_false, *])
def amt (v : PV) (lo hi : Int) : Bool := match v with | .int i => decide (lo ≤ i) && decide (i ≤ hi) | _ => false
theorem phi0 (n : Nat) (v : PV) (lo hi : Int) (hv : isScript v = false) : prg.Φ (n + 1) 0 [v, .int lo, .int hi] = some (.frz (.bool (amt v lo hi)), []) := by
  rw [phi_run (d := d0) rfl]
  refine run_frz rfl (by decide) (s := [.frz v, .frz (.int lo), .frz (.int hi)]) ?_ rfl
  show evSs _ b0 [.frz v, .frz (.int lo), .frz (.int hi)] = _
  unfold b0
  cases v with
  | int i => 
    trivial
    by_cases h : lo ≤ i
    · trivial
      simp [amt, h]
    · trivial
      simp [amt, h]
  | _ => trivial; rfl
def Jok (t : Int × Int) : Prop := 1 ≤ t.1 ∧ t.1 ≤ 99 ∧ 0 ≤ t.2 ∧ t.2 ≤ 99
def Vd (T : List (Int × Int)) : Prop := T ≠ [] ∧ T.length ≤ 9 ∧ ∀ t ∈ T, Jok t
theorem at_ok {T : List (Int × Int)} (h : ∀ t ∈ T, Jok t) (i : Nat) : Jok (Mth.at_ T i) ∨ Mth.at_ T i = (1, 0) := by
  unfold Mth.at_ List.getD
  cases e : T[i]? with
  | none => exact .inr rfl
  | some t => exact .inl (h t (List.mem_of_getElem? e))
theorem at_small {T : List (Int × Int)} (h : ∀ t ∈ T, Jok t) (i : Nat) : (Mth.at_ T i).1.natAbs < 2 ^ 64 ∧ (Mth.at_ T i).2.natAbs < 2 ^ 64 := by
  rcases at_ok h i with ⟨h1, h2, h3, h4⟩ | h
  · omega
  · rw [h]; decide
/-- the going along -/
theorem phi2 (n : Nat) {T : List (Int × Int)} (hT : ∀ t ∈ T, Jok t) {o : List Nat} (ho : ∀ i ∈ o, i < T.length) : prg.Φ (n + 1) 2 [tk T, odv o] = some (.frz (.int (Mth.C (Mth.row T o))), []) := by
  rw [phi_run (d := d2) rfl]
  let S : (Int × Int) × Slot → Ev.Env := fun a => [.frz (tk T), .frz (odv o), .frz (.int a.1.1), .frz (.int a.1.2), a.2]
  let g : (Int × Int) × Slot → Nat → (Int × Int) × Slot := fun a i => (Mth.jstep a.1 (Mth.at_ T i), .frz (.int (i : Int)))
  have hloop := (for_map (step := turn (prg.cf n) (.name 4) [.aug 3 .Add (.idx (.idx (.peek 0) (.peek 4)) (.cint 0)), .aug 2 .Add (.bin .Mult (.peek 3) (.idx (.idx (.peek 0) (.peek 4)) (.cint 1)))]) S (fun (i : Nat) => PyData.int (i : Int)) g (fun a => isIo a.2 = false) (bs := o) (a := ((0, 0), .emp)) rfl fun a i hi hp => by
    refine ⟨?_, rfl⟩
    have h1 := idx_tk (ho i hi)
    have h2 := idx_0 (Mth.at_ T i)
    have h3 := idx_1 (Mth.at_ T i)
    have m : ∀ x, mulOk x (Mth.at_ T i).2 = true := fun x => mul_r (at_small hT i).2
    obtain ⟨⟨a1, a2⟩, sl⟩ := a
    show turn _ _ _ (.int (i : Int)) [.frz (tk T), .frz (odv o), .frz (.int a1), .frz (.int a2), sl] = .ok .next [.frz (tk T), .frz (odv o), .frz (.int (a1 + (a2 + (Mth.at_ T i).1) * (Mth.at_ T i).2)), .frz (.int (a2 + (Mth.at_ T i).1)), .frz (.int (i : Int))]
    have hp : isIo sl = false := hp
    cases sl with
    | io d => cases hp
    | _ => trivial).1
  have hf : ∀ (l : List Nat) (a : (Int × Int) × Slot), (l.foldl g a).1 = (Mth.row T l).foldl Mth.jstep a.1 := fun l => by
    induction l with
    | nil => intro a; rfl
    | cons i l ih => intro a; exact ih _
  have hr : ((o.foldl g ((0, 0), .emp)).1).1 = Mth.C (Mth.row T o) := by
    rw [hf, Mth.fold_C]; simp
  have hit : items .val [odv o] = some (nats o) := rfl
  refine run_frz rfl (by decide) (s := S (o.foldl g ((0, 0), .emp))) ?_ rfl
  show evSs _ b2 [.frz (tk T), .frz (odv o), .emp, .emp, .emp] = _
  unfold b2
  have hloop : forLoop _ (nats o) [.frz (tk T), .frz (odv o), .frz (.int 0), .frz (.int 0), .emp] = _ := hloop
  have lim0 : (0 + 1 + 1 ≤ lim) := by decide
  trivial
  show RE.ok (Ev.Flow.ret (.frz (.int ((o.foldl g ((0, 0), .emp)).1).1))) _ = _
  rw [hr]
def toI : PV → Int | .int i => i | _ => 0
theorem amt_int {v : PV} {lo hi : Int} (h : amt v lo hi = true) : v = .int (toI v) ∧ lo ≤ toI v ∧ toI v ≤ hi := by
  cases v <;> simp [amt, toI] at h ⊢
  exact h
def rngI (m : Nat) : List Int := (List.range m).map fun (i : Nat) => (i : Int)
def srt (l : List Int) : List Int := l.mergeSort fun a b => decide (a ≤ b)
/-- is it all of 0 .. m-1? -/
def who (m : Nat) : PV → Bool
  | .tuple xs => (xs.all fun x => amt x 0 ((m : Int) - 1)) && decide (srt (xs.map toI) = rngI m)
  | _ => false
theorem all_ints {xs : List PV} {lo hi : Int} (h : (xs.all fun x => amt x lo hi) = true) : xs = (xs.map toI).map .int := by
  rw [List.map_map]
  conv => lhs; rw [← List.map_id xs]
  refine List.map_congr_left fun x hx => ?_
  exact (amt_int (List.all_eq_true.mp h x hx)).1
def Clean (v : PV) : Prop := isScript v = false ∧ ∀ xs, v = .tuple xs → ∀ x ∈ xs, isScript x = false
theorem phi1 (n : Nat) {m : Nat} (hm : m ≤ 1000) {v : PV} (hv : Clean v) : prg.Φ (n + 2) 1 [.int (m : Nat), v] = some (.frz (.bool (who m v)), []) := by
  rw [phi_run (d := d1) rfl]
  have hl0 : prg.lent 0 = [] := rfl
  have hv1 := hv.1
  by_cases ht : ∃ xs, v = .tuple xs
  · obtain ⟨xs, rfl⟩ := ht
    have hx := hv.2 xs rfl
    have hl : lcAll [2] (lcTurn (prg.cf (n + 1)) (.name 2) [] (.call 0 [.var 2, .cint 0, .bin .Sub (.peek 0) (.cint 1)])) xs [.frz (.int (m : Nat)), .frz (.tuple xs), .emp] = .ok (.own (.list ((xs.map fun x => amt x 0 ((m : Int) - 1)).map .bool))) [.frz (.int (m : Nat)), .frz (.tuple xs), .emp] := by
      rw [List.map_map]
      refine (lcAll_map (h := [.frz (.int (m : Nat)), .frz (.tuple xs), .emp]) (fun x => .bool (amt x 0 ((m : Int) - 1))) rfl fun x hxx => ?_)
      refine ⟨[.frz (.int (m : Nat)), .frz (.tuple xs), .frz x], ?_, rfl⟩
      have hp := phi0 n x 0 ((m : Int) - 1) (hx x hxx)
      trivial
    have hall := b_all (xs.map fun x => amt x 0 ((m : Int) - 1))
    have hit : items .val [.tuple xs] = some xs := rfl
    by_cases ha : (xs.all fun x => amt x 0 ((m : Int) - 1)) = true
    · have ha2 : (xs.map fun x => amt x 0 ((m : Int) - 1)).all id = true := by simpa [List.all_map] using ha
      have e := all_ints ha
      have hs : bltOp .sorted [.tuple xs] = some (.own (.list ((srt (xs.map toI)).map .int))) := by
        have h := b_sortT (xs.map toI)
        rw [← e] at h
        exact h
      clear e
      have hr : items .rng [.int (m : Nat)] = some ((rngI m).map .int) := rng_ints rfl (by unfold lim; omega)
      have hq := eq_LL (srt (xs.map toI)) (rngI m)
      refine run_frz rfl (by decide) (s := [.frz (.int (m : Nat)), .frz (.tuple xs), .emp]) ?_ rfl
      show evSs _ b1 [.frz (.int (m : Nat)), .frz (.tuple xs), .emp] = _
      unfold b1
      trivial
      simp [who, ha]
    · have ha2 : (xs.map fun x => amt x 0 ((m : Int) - 1)).all id = false := by
        rw [List.all_map]
        simpa using ha
      refine run_frz rfl (by decide) (s := [.frz (.int (m : Nat)), .frz (.tuple xs), .emp]) ?_ rfl
      show evSs _ b1 [.frz (.int (m : Nat)), .frz (.tuple xs), .emp] = _
      unfold b1
      trivial
      simp [who, ha]
  · refine run_frz rfl (by decide) (s := [.frz (.int (m : Nat)), .frz v, .emp]) ?_ rfl
    show evSs _ b1 [.frz (.int (m : Nat)), .frz v, .emp] = _
    unfold b1
    cases v with
    | tuple xs => exact absurd ⟨xs, rfl⟩ ht
    | _ => trivial; rfl
theorem zipIdx_map {α : Type} (f : α → PV) (xs : List α) : ((xs.map f).zipIdx.map fun p => PyData.tuple [.int (p.2 : Nat), p.1]) = xs.zipIdx.map fun p => .tuple [.int (p.2 : Nat), f p.1] := by
  rw [List.zipIdx_map, List.map_map]; rfl
theorem mem_zipIdx {T : List (Int × Int)} {p : (Int × Int) × Nat} (h : p ∈ T.zipIdx) : p.2 < T.length ∧ p.1 = Mth.at_ T p.2 := by
  obtain ⟨t, k⟩ := p
  have h2 := List.mem_zipIdx_iff_getElem?.mp h
  have h3 := (List.getElem?_eq_some_iff.mp h2).1
  refine ⟨h3, ?_⟩
  simp only at h2 ⊢
  simp [Mth.at_, List.getD, h2]
theorem fold_SM (T : List (Int × Int)) : ∀ (L : List (Int × Int)) (k : Nat) (f : Int), T.drop k = L → (L.zipIdx k).foldl (fun (f : Int) p => f + p.1.1 * p.1.2 + Mth.sumP p.1 (T.drop (p.2 + 1))) f = f + Mth.SM L
  | [], k, f, _ => by simp [Mth.SM]
  | t :: L, k, f, h => by
    have h2 : T.drop (k + 1) = L := by
      have := congrArg List.tail h
      rwa [List.tail_drop] at this
    rw [List.zipIdx_cons, List.foldl_cons, fold_SM T L (k + 1) _ h2]
    simp only [h2, Mth.SM]
    omega
theorem phi3 (n : Nat) {T : List (Int × Int)} (hT : ∀ t ∈ T, Jok t) : prg.Φ (n + 1) 3 [tk T] = some (.frz (.int (Mth.SM T)), []) := by
  rw [phi_run (d := d3) rfl]
  let S : Int × Slot × Slot → Ev.Env := fun a => [.frz (tk T), .frz (.int a.1), a.2.1, a.2.2, .emp]
  let g : Int × Slot × Slot → (Int × Int) × Nat → Int × Slot × Slot := fun a p => (a.1 + p.1.1 * p.1.2 + Mth.sumP p.1 (T.drop (p.2 + 1)), .frz (.int (p.2 : Int)), .frz (tkv p.1))
  have hloop := (for_map (step := turn (prg.cf n) (.tup [.name 2, .name 3]) [.aug 1 .Add (.bin .Mult (.idx (.peek 3) (.cint 0)) (.idx (.peek 3) (.cint 1))), .aug 1 .Add (.blt .sum [.lc [("other", 4)] (.blt .min2 [.bin .Mult (.idx (.peek 3) (.cint 1)) (.idx (.peek 4) (.cint 0)), .bin .Mult (.idx (.peek 4) (.cint 1)) (.idx (.peek 3) (.cint 0))]) (.name 4) .val [.slcL (.peek 0) (.bin .Add (.peek 2) (.cint 1))] []])]) S (fun (p : (Int × Int) × Nat) => PyData.tuple [.int (p.2 : Nat), tkv p.1]) g (fun a => isIo a.2.1 = false ∧ isIo a.2.2 = false) (bs := T.zipIdx) (a := (0, .emp, .emp)) ⟨rfl, rfl⟩ fun a p hp ha => by
    refine ⟨?_, rfl, rfl⟩
    obtain ⟨hk, e1⟩ := mem_zipIdx hp
    obtain ⟨⟨t1, t2⟩, k⟩ := p
    obtain ⟨a1, s2, s3⟩ := a
    have hsm := at_small hT k
    simp only at e1 hk
    rw [← e1] at hsm
    obtain ⟨q1, q2⟩ := hsm
    simp only at q1 q2
    clear e1
    have m1 : ∀ x, mulOk t1 x = true := fun x => mul_l q1
    have m2 : ∀ x, mulOk x t1 = true := fun x => mul_r q1
    have m3 : ∀ x, mulOk t2 x = true := fun x => mul_l q2
    have i0 := idx_0 (t1, t2)
    have i1 := idx_1 (t1, t2)
    simp only at i0 i1
    have hsl : slcOp (some ((k : Int) + 1)) none (tk T) = some (.frz (.tuple ((T.drop (k + 1)).map tkv))) := by
      rw [List.map_drop]
      exact l_dropT (by omega)
    have hit : items .val [.tuple ((T.drop (k + 1)).map tkv)] = some ((T.drop (k + 1)).map tkv) := rfl
    have hl : lcAll [4] (lcTurn (prg.cf n) (.name 4) [] (.blt .min2 [.bin .Mult (.idx (.peek 3) (.cint 1)) (.idx (.peek 4) (.cint 0)), .bin .Mult (.idx (.peek 4) (.cint 1)) (.idx (.peek 3) (.cint 0))])) ((T.drop (k + 1)).map tkv) [.frz (tk T), .frz (.int (a1 + t1 * t2)), .frz (.int (k : Nat)), .frz (tkv (t1, t2)), .emp] = .ok (.own (.list (((T.drop (k + 1)).map (Mth.pr (t1, t2))).map .int))) [.frz (tk T), .frz (.int (a1 + t1 * t2)), .frz (.int (k : Nat)), .frz (tkv (t1, t2)), .emp] := by
      rw [List.map_map]
      refine lc_mapB (h := [.frz (tk T), .frz (.int (a1 + t1 * t2)), .frz (.int (k : Nat)), .frz (tkv (t1, t2)), .emp]) tkv (fun o => .int (Mth.pr (t1, t2) o)) rfl fun o ho => ?_
      refine ⟨[.frz (tk T), .frz (.int (a1 + t1 * t2)), .frz (.int (k : Nat)), .frz (tkv (t1, t2)), .frz (tkv o)], ?_, rfl⟩
      obtain ⟨o1, o2⟩ := o
      have j0 := idx_0 (o1, o2)
      have j1 := idx_1 (o1, o2)
      simp only at j0 j1
      trivial
      simp [min2_eq, Mth.pr]
    have hs := b_sum ((T.drop (k + 1)).map (Mth.pr (t1, t2)))
    obtain ⟨g1, g2⟩ := ha
    show turn _ _ _ (.tuple [.int (k : Nat), tkv (t1, t2)]) [.frz (tk T), .frz (.int a1), s2, s3, .emp] = .ok .next [.frz (tk T), .frz (.int (a1 + t1 * t2 + Mth.sumP (t1, t2) (T.drop (k + 1)))), .frz (.int (k : Nat)), .frz (tkv (t1, t2)), .emp]
    simp only at g1 g2
    cases s2 <;> first | (cases g1; done) | skip
    all_goals
      cases s3 <;> first | (cases g2; done) | skip
    all_goals
      clear g1 g2 hp hT
      trivial
      rfl).1
  have hf : ∀ (l : List ((Int × Int) × Nat)) (a : Int × Slot × Slot), (l.foldl g a).1 = l.foldl (fun (f : Int) p => f + p.1.1 * p.1.2 + Mth.sumP p.1 (T.drop (p.2 + 1))) a.1 := fun l => by
    induction l with
    | nil => intro a; rfl
    | cons i l ih => intro a; exact ih _
  have hr : (T.zipIdx.foldl g (0, .emp, .emp)).1 = Mth.SM T := by
    rw [hf, fold_SM T T 0 _ (by simp)]; simp
  have hit : items .enm [tk T] = some (T.zipIdx.map fun p => .tuple [.int (p.2 : Nat), tkv p.1]) := by
    rw [← zipIdx_map]; rfl
  refine run_frz rfl (by decide) (s := S (T.zipIdx.foldl g (0, .emp, .emp))) ?_ rfl
  show evSs _ b3 [.frz (tk T), .emp, .emp, .emp, .emp] = _
  unfold b3
  have hloop : forLoop _ (T.zipIdx.map fun p => PyData.tuple [.int (p.2 : Nat), tkv p.1]) [.frz (tk T), .frz (.int 0), .emp, .emp, .emp] = _ := hloop
  clear hT
  trivial
  show RE.ok (Ev.Flow.ret (.frz (.int (T.zipIdx.foldl g (0, .emp, .emp)).1))) _ = _
  rw [hr]
def lk (t o : Int × Int) : Bool := decide (t.1 * o.2 = o.1 * t.2)
theorem phi4 (n : Nat) {t o : Int × Int} (h1 : Jok t) (h2 : Jok o) : prg.Φ (n + 1) 4 [tkv t, tkv o] = some (.frz (.bool (lk t o)), []) := by
  rw [phi_run (d := d4) rfl]
  obtain ⟨t1, t2⟩ := t
  obtain ⟨o1, o2⟩ := o
  refine run_frz rfl (by decide) (s := [.frz (tkv (t1, t2)), .frz (tkv (o1, o2))]) ?_ rfl
  show evSs _ b4 [.frz (tkv (t1, t2)), .frz (tkv (o1, o2))] = _
  unfold b4
  obtain ⟨p1, p2, p3, p4⟩ := h1
  obtain ⟨r1, r2, r3, r4⟩ := h2
  simp only at p1 p2 p3 p4 r1 r2 r3 r4
  have m1 : mulOk t1 o2 = true := mul_l (by omega)
  have m2 : mulOk o1 t2 = true := mul_l (by omega)
  have i0 := idx_0 (t1, t2)
  have i1 := idx_1 (t1, t2)
  have j0 := idx_0 (o1, o2)
  have j1 := idx_1 (o1, o2)
  simp only at i0 i1 j0 j1
  clear p1 p2 p3 p4 r1 r2 r3 r4
  trivial
  rfl
theorem take_range (T : List (Int × Int)) : ∀ {k : Nat}, k ≤ T.length → T.take k = (List.range k).map (Mth.at_ T) := fun {k} h => by
  apply List.ext_getElem
  · simp; omega
  · intro i h1 h2
    simp at h1
    simp [Mth.at_, List.getD, show i < T.length by omega]
theorem lk_alike (T : List (Int × Int)) (k : Nat) (hk : k ≤ T.length) : ((T.take k).filter (lk (Mth.at_ T k))).length = ((List.range k).filter fun a => Mth.alike T k a).length := by
  rw [take_range T hk, List.filter_map, List.length_map]
  rfl
theorem fold_cnt (T : List (Int × Int)) : ∀ (m k : Nat), k + m ≤ T.length → ((List.range' k m).map fun k => (Mth.at_ T k, k)).foldl (fun (f : Int) p => f * (1 + (((T.take p.2).filter (lk p.1)).length : Nat))) (Mth.cntO T k : Nat) = (Mth.cntO T (k + m) : Nat)
  | 0, k, _ => by simp
  | m + 1, k, h => by
    rw [List.range'_succ, List.map_cons, List.foldl_cons]
    have := fold_cnt T m (k + 1) (by omega)
    rw [show k + (m + 1) = k + 1 + m by omega, ← this]
    congr 1
    show (Mth.cntO T k : Int) * (1 + (((T.take k).filter (lk (Mth.at_ T k))).length : Nat)) = _
    rw [lk_alike T k (by omega)]
    show _ = ((Mth.cntO T k * (1 + ((List.range k).filter fun a => Mth.alike T k a).length) : Nat) : Int)
    rw [Int.natCast_mul, Int.natCast_add]
    rfl
theorem zipIdx_at (T : List (Int × Int)) : T.zipIdx = (List.range' 0 T.length).map fun k => (Mth.at_ T k, k) := by
  apply List.ext_getElem
  · simp
  · intro i h1 h2
    simp at h1
    simp [Mth.at_, List.getD, h1]
theorem phi5 (n : Nat) {T : List (Int × Int)} (hT : ∀ t ∈ T, Jok t) (hl9 : T.length ≤ 1000) : prg.Φ (n + 2) 5 [tk T] = some (.frz (.int (Mth.cntO T T.length : Nat)), []) := by
  rw [phi_run (d := d5) rfl]
  have hl0 : prg.lent 4 = [] := rfl
  let S : Int × Slot × Slot → Ev.Env := fun a => [.frz (tk T), .frz (.int a.1), a.2.1, a.2.2, .emp]
  let g : Int × Slot × Slot → (Int × Int) × Nat → Int × Slot × Slot := fun a p => (a.1 * (1 + (((T.take p.2).filter (lk p.1)).length : Nat)), .frz (.int (p.2 : Int)), .frz (tkv p.1))
  have hloop := (for_map (step := turn (prg.cf (n + 1)) (.tup [.name 2, .name 3]) [.aug 1 .Mult (.bin .Add (.cint 1) (.blt .len [.lc [("other", 4)] (.var 4) (.name 4) .val [.slcH (.peek 0) (.var 2)] [.call 4 [.var 3, .var 4]]]))]) S (fun (p : (Int × Int) × Nat) => PyData.tuple [.int (p.2 : Nat), tkv p.1]) g (fun a => isIo a.2.1 = false ∧ isIo a.2.2 = false) (bs := T.zipIdx) (a := (1, .emp, .emp)) ⟨rfl, rfl⟩ fun a p hp ha => by
    refine ⟨?_, rfl, rfl⟩
    obtain ⟨hk, e1⟩ := mem_zipIdx hp
    obtain ⟨t, k⟩ := p
    obtain ⟨a1, s2, s3⟩ := a
    have ht : Jok t := hT t (by have := List.mem_zipIdx_iff_getElem?.mp hp; exact List.mem_of_getElem? this)
    have hsl : slcOp none (some (k : Int)) (tk T) = some (.frz (.tuple ((T.take k).map tkv))) := by
      rw [List.map_take]
      exact l_takeT rfl
    have hit : items .val [.tuple ((T.take k).map tkv)] = some ((T.take k).map tkv) := rfl
    have hl : lcAll [4] (lcTurn (prg.cf (n + 1)) (.name 4) [.call 4 [.var 3, .var 4]] (.var 4)) ((T.take k).map tkv) [.frz (tk T), .frz (.int a1), .frz (.int (k : Nat)), .frz (tkv t), .emp] = .ok (.own (.list (((T.take k).filter (lk t)).map tkv))) [.frz (tk T), .frz (.int a1), .frz (.int (k : Nat)), .frz (tkv t), .emp] := by
      refine lc_filB (h := [.frz (tk T), .frz (.int a1), .frz (.int (k : Nat)), .frz (tkv t), .emp]) tkv (lk t) tkv rfl fun o ho => ?_
      refine ⟨[.frz (tk T), .frz (.int a1), .frz (.int (k : Nat)), .frz (tkv t), .frz (tkv o)], ?_, rfl⟩
      have hc := phi4 n ht (hT o (List.mem_of_mem_take ho))
      clear hp e1
      cases hq : lk t o with
      | true => rw [hq] at hc; clear hq; trivial
      | false => rw [hq] at hc; clear hq; trivial
    have m1 : mulOk a1 (1 + (((T.take k).filter (lk t)).length : Nat)) = true := mul_r (by
      have h1 := List.length_filter_le (lk t) (T.take k)
      have h2 : (T.take k).length ≤ T.length := by simp; omega
      omega)
    obtain ⟨g1, g2⟩ := ha
    show turn _ _ _ (.tuple [.int (k : Nat), tkv t]) [.frz (tk T), .frz (.int a1), s2, s3, .emp] = .ok .next [.frz (tk T), .frz (.int (a1 * (1 + (((T.take k).filter (lk t)).length : Nat)))), .frz (.int (k : Nat)), .frz (tkv t), .emp]
    simp only at g1 g2
    have hlen : (((T.take k).filter (lk t)).map tkv).length = ((T.take k).filter (lk t)).length := by simp
    cases s2 <;> first | (cases g1; done) | skip
    all_goals
      cases s3 <;> first | (cases g2; done) | skip
    all_goals
      clear g1 g2 hp hT e1
      trivial).1
  have hf : ∀ (l : List ((Int × Int) × Nat)) (a : Int × Slot × Slot), (l.foldl g a).1 = l.foldl (fun (f : Int) p => f * (1 + (((T.take p.2).filter (lk p.1)).length : Nat))) a.1 := fun l => by
    induction l with
    | nil => intro a; rfl
    | cons i l ih => intro a; exact ih _
  have hr : (T.zipIdx.foldl g (1, .emp, .emp)).1 = (Mth.cntO T T.length : Nat) := by
    rw [hf, zipIdx_at]
    have := fold_cnt T T.length 0 (by omega)
    rw [Nat.zero_add] at this
    exact this
  have hit : items .enm [tk T] = some (T.zipIdx.map fun p => .tuple [.int (p.2 : Nat), tkv p.1]) := by
    rw [← zipIdx_map]; rfl
  refine run_frz rfl (by decide) (s := S (T.zipIdx.foldl g (1, .emp, .emp))) ?_ rfl
  show evSs _ b5 [.frz (tk T), .emp, .emp, .emp, .emp] = _
  unfold b5
  have hloop : forLoop _ (T.zipIdx.map fun p => PyData.tuple [.int (p.2 : Nat), tkv p.1]) [.frz (tk T), .frz (.int 1), .emp, .emp, .emp] = _ := hloop
  clear hT
  trivial
  show RE.ok (Ev.Flow.ret (.frz (.int (T.zipIdx.foldl g (1, .emp, .emp)).1))) _ = _
  rw [hr]
theorem g_is : prg.G = [.int 99, .int 9, .int 99] := rfl
theorem isT (T : List (Int × Int)) : isiOp .tuple (tk T) = some true := rfl
theorem lenT (T : List (Int × Int)) : bltOp .len [tk T] = some (.frz (.int (T.length : Nat))) := by simp [tk, bltOp]
theorem phi6 (n : Nat) {T : List (Int × Int)} (hT : Vd T) : prg.Φ (n + 2) 6 [tk T, .int 9, .int 0, .int 99] = some (.frz (.bool true), []) := by
  rw [phi_run (d := d6) rfl]
  obtain ⟨h0, h9, hJ⟩ := hT
  have hl0 : prg.lent 0 = [] := rfl
  have hpos : 0 < T.length := List.length_pos_iff.mpr h0
  have q1 : (1 : Int) ≤ (T.length : Nat) := by omega
  have q2 : ((T.length : Nat) : Int) ≤ 9 := by omega
  have gg := g_is
  let S : Slot → Ev.Env := fun a => [.frz (tk T), .frz (.int 9), .frz (.int 0), .frz (.int 99), a]
  have hloop := (for_map (step := turn (prg.cf (n + 1)) (.name 4) [.ite (.bop .Or [.not (.isi .tuple (.peek 4)), .cmp .NotEq (.blt .len [.peek 4]) (.cint 2)]) [.ret (.cbl false)] [], .ite (.bop .Or [.not (.call 0 [.idx (.peek 4) (.cint 0), .cint 1, .glb 0]), .not (.call 0 [.idx (.peek 4) (.cint 1), .var 2, .var 3])]) [.ret (.cbl false)] []]) S tkv (fun _ t => .frz (tkv t)) (fun a => isIo a = false) (bs := T) (a := .emp) rfl fun a t ht ha => by
    refine ⟨?_, rfl⟩
    obtain ⟨p1, p2, p3, p4⟩ := hJ t ht
    obtain ⟨t1, t2⟩ := t
    simp only at p1 p2 p3 p4
    have c1 := phi0 n (.int t1) 1 99 rfl
    have c2 := phi0 n (.int t2) 0 99 rfl
    rw [show amt (.int t1) 1 99 = true by simp [amt, p1, p2]] at c1
    rw [show amt (.int t2) 0 99 = true by simp [amt, p3, p4]] at c2
    have i0 := idx_0 (t1, t2)
    have i1 := idx_1 (t1, t2)
    simp only at i0 i1
    have e1 : isiOp .tuple (tkv (t1, t2)) = some true := rfl
    have e2 : bltOp .len [tkv (t1, t2)] = some (.frz (.int 2)) := rfl
    show turn _ _ _ (tkv (t1, t2)) [.frz (tk T), .frz (.int 9), .frz (.int 0), .frz (.int 99), a] = .ok .next [.frz (tk T), .frz (.int 9), .frz (.int 0), .frz (.int 99), .frz (tkv (t1, t2))]
    have ha : isIo a = false := ha
    clear hJ ht p1 p2 p3 p4 h0 h9 hpos q1 q2
    cases a with
    | io d => cases ha
    | _ => clear ha; trivial).1
  have e1 := isT T
  have e2 := lenT T
  have hit : items .val [tk T] = some (T.map tkv) := rfl
  refine run_frz rfl (by decide) (s := S (T.foldl (fun _ t => .frz (tkv t)) .emp)) ?_ rfl
  show evSs _ b6 [.frz (tk T), .frz (.int 9), .frz (.int 0), .frz (.int 99), .emp] = _
  unfold b6
  have hloop : forLoop _ (T.map tkv) [.frz (tk T), .frz (.int 9), .frz (.int 0), .frz (.int 99), .emp] = _ := hloop
  clear hJ h0 h9 hpos
  trivial
theorem phi7 (n : Nat) {T : List (Int × Int)} (hT : Vd T) : prg.Φ (n + 3) 7 [tk T] = some (.frz .none, []) := by
  rw [phi_run (d := d7) rfl]
  have c := phi6 n hT
  have hl0 : prg.lent 6 = [] := rfl
  have gg := g_is
  refine run_next rfl (by decide) (s := [.frz (tk T)]) ?_ rfl
  show evSs _ b7 [.frz (tk T)] = _
  unfold b7
  clear hT
  trivial
theorem sorted_eq : ∀ {l1 l2 : List Int}, l1.Pairwise (· ≤ ·) → l2.Pairwise (· ≤ ·) → l1.Perm l2 → l1 = l2
  | [], l2, _, _, h => (List.perm_nil.mp h.symm).symm
  | a :: l1, [], _, _, h => by simpa using h.length_eq
  | a :: l1, b :: l2, h1, h2, h => by
    obtain ⟨h3, h4⟩ := List.pairwise_cons.mp h1
    obtain ⟨h5, h6⟩ := List.pairwise_cons.mp h2
    have hb : b ∈ a :: l1 := h.mem_iff.mpr (by simp)
    have ha : a ∈ b :: l2 := h.mem_iff.mp (by simp)
    have e : a = b := by
      rcases List.mem_cons.mp hb with hb | hb
      · exact hb.symm
      · rcases List.mem_cons.mp ha with ha | ha
        · exact ha
        · have := h3 b hb; have := h5 a ha; omega
    subst e
    rw [sorted_eq h4 h6 h.cons_inv]
theorem srt_iff {l : List Int} {m : Nat} : srt l = rngI m ↔ l.Perm (rngI m) := by
  have hp : (srt l).Perm l := List.mergeSort_perm _ _
  constructor
  · intro h; rw [h] at hp; exact hp.symm
  · intro h
    refine sorted_eq ?_ ?_ (hp.trans h)
    · exact (List.pairwise_mergeSort (le := fun a b : Int => decide (a ≤ b)) (fun a b c h1 h2 => by simp at h1 h2 ⊢; omega) (fun a b => by simp; omega) l).imp fun h => of_decide_eq_true h
    · unfold rngI
      rw [List.pairwise_map]
      exact (List.pairwise_lt_range (n := m)).imp fun h => by omega
def idxs (xs : List PV) : List Nat := xs.map fun x => (toI x).toNat
theorem who_iff {m : Nat} {xs : List PV} : who m (.tuple xs) = true ↔ ∃ o : List Nat, xs = nats o ∧ o.Perm (List.range m) := by
  unfold who
  rw [Bool.and_eq_true, decide_eq_true_eq, srt_iff]
  constructor
  · rintro ⟨h1, h2⟩
    have e : xs = nats (idxs xs) := by
      unfold nats idxs
      rw [List.map_map]
      conv => lhs; rw [← List.map_id xs]
      refine List.map_congr_left fun x hx => ?_
      obtain ⟨a1, a2, _⟩ := amt_int (List.all_eq_true.mp h1 x hx)
      show x = PyData.int ((toI x).toNat : Int)
      rw [Int.toNat_of_nonneg a2]
      exact a1
    refine ⟨idxs xs, e, ?_⟩
    have := h2.map Int.toNat
    unfold rngI at this
    rw [List.map_map, List.map_map] at this
    have e2 : (List.range m).map (Int.toNat ∘ fun (i : Nat) => (i : Int)) = List.range m := by
      conv => rhs; rw [← List.map_id (List.range m)]
      exact List.map_congr_left fun x _ => by simp
    rw [e2] at this
    exact this
  · rintro ⟨o, rfl, h⟩
    constructor
    · rw [List.all_eq_true]
      intro x hx
      unfold nats at hx
      obtain ⟨i, hi, rfl⟩ := List.mem_map.mp hx
      have := h.mem_iff.mp hi
      simp at this
      simp [amt]
      omega
    · unfold nats rngI
      rw [List.map_map]
      exact h.map _
theorem clean_odv (o : List Nat) : Clean (odv o) := ⟨rfl, fun xs h x hx => by
  unfold odv nats at h
  cases h
  obtain ⟨i, _, rfl⟩ := List.mem_map.mp hx
  rfl⟩
theorem phi8 (n : Nat) {T : List (Int × Int)} (h9 : T.length ≤ 1000) {o : List Nat} (ho : o.Perm (List.range T.length)) : prg.Φ (n + 3) 8 [tk T, odv o] = some (.frz .none, []) := by
  rw [phi_run (d := d8) rfl]
  have c := phi1 n h9 (clean_odv o)
  rw [show who T.length (odv o) = true from who_iff.mpr ⟨o, rfl, ho⟩] at c
  have hl0 : prg.lent 1 = [] := rfl
  have e2 := lenT T
  refine run_next rfl (by decide) (s := [.frz (tk T), .frz (odv o)]) ?_ rfl
  show evSs _ b8 [.frz (tk T), .frz (odv o)] = _
  unfold b8
  clear ho
  trivial
theorem perm_lt {o : List Nat} {m : Nat} (h : o.Perm (List.range m)) : ∀ i ∈ o, i < m := fun i hi => by simpa using h.mem_iff.mp hi
theorem phi9 (n : Nat) {T : List (Int × Int)} (hT : Vd T) {o : List Nat} (ho : o.Perm (List.range T.length)) : prg.Φ (n + 4) 9 [tk T, odv o] = some (.frz (.int (Mth.C (Mth.row T o))), []) := by
  rw [phi_run (d := d9) rfl]
  have c1 := phi7 n hT
  have c2 := phi8 n (T := T) (by have := hT.2.1; omega) ho
  have c3 := phi2 (n + 2) hT.2.2 (perm_lt ho)
  have l1 : prg.lent 7 = [] := rfl
  have l2 : prg.lent 8 = [] := rfl
  have l3 : prg.lent 2 = [] := rfl
  refine run_frz rfl (by decide) (s := [.frz (tk T), .frz (odv o)]) ?_ rfl
  show evSs _ b9 [.frz (tk T), .frz (odv o)] = _
  unfold b9
  clear hT ho
  trivial
theorem phi10 (n : Nat) {T : List (Int × Int)} (hT : Vd T) : prg.Φ (n + 4) 10 [tk T] = some (.frz (.int (Mth.SM T)), []) := by
  rw [phi_run (d := d10) rfl]
  have c1 := phi7 n hT
  have c3 := phi3 (n + 2) hT.2.2
  have l1 : prg.lent 7 = [] := rfl
  have l3 : prg.lent 3 = [] := rfl
  refine run_frz rfl (by decide) (s := [.frz (tk T)]) ?_ rfl
  show evSs _ b10 [.frz (tk T)] = _
  unfold b10
  clear hT
  trivial
theorem phi12 (n : Nat) {T : List (Int × Int)} (hT : Vd T) : prg.Φ (n + 4) 12 [tk T] = some (.frz (.int (Mth.cntO T T.length : Nat)), []) := by
  rw [phi_run (d := d12) rfl]
  have c1 := phi7 n hT
  have c3 := phi5 (n + 1) hT.2.2 (by have := hT.2.1; omega)
  have l1 : prg.lent 7 = [] := rfl
  have l3 : prg.lent 5 = [] := rfl
  refine run_frz rfl (by decide) (s := [.frz (tk T)]) ?_ rfl
  show evSs _ b12 [.frz (tk T)] = _
  unfold b12
  clear hT
  trivial
/-- does it have the least sum? -/
def rle (T : List (Int × Int)) (v : PV) : Bool := who T.length v && match v with
  | .tuple xs => decide (Mth.C (Mth.row T (idxs xs)) = Mth.SM T)
  | _ => false
theorem idxs_nats (o : List Nat) : idxs (nats o) = o := by
  unfold idxs nats
  rw [List.map_map]
  conv => rhs; rw [← List.map_id o]
  exact List.map_congr_left fun x _ => by simp [toI]
theorem phi11 (n : Nat) {T : List (Int × Int)} (hT : Vd T) {v : PV} (hv : Clean v) : prg.Φ (n + 4) 11 [tk T, v] = some (.frz (.bool (rle T v)), []) := by
  rw [phi_run (d := d11) rfl]
  have c1 := phi7 n hT
  have c2 := phi1 (n + 1) (m := T.length) (by have := hT.2.1; omega) hv
  have c4 := phi3 (n + 2) hT.2.2
  have l1 : prg.lent 7 = [] := rfl
  have l2 : prg.lent 1 = [] := rfl
  have l3 : prg.lent 2 = [] := rfl
  have l4 : prg.lent 3 = [] := rfl
  have e2 := lenT T
  refine run_frz rfl (by decide) (s := [.frz (tk T), .frz v]) ?_ rfl
  show evSs _ b11 [.frz (tk T), .frz v] = _
  unfold b11
  unfold rle
  cases hw : who T.length v with
  | false =>
    rw [hw] at c2
    clear hT hv hw
    trivial
    rfl
  | true =>
    rw [hw] at c2
    cases v with
    | tuple xs =>
      obtain ⟨o, rfl, ho⟩ := who_iff.mp hw
      have c3 : prg.Φ (n + 2 + 1) 2 [tk T, .tuple (nats o)] = _ := phi2 (n + 2) hT.2.2 (perm_lt ho)
      have en := idxs_nats o
      clear hT hv hw ho
      trivial
      rfl
    | _ => cases hw
theorem for_mapI {A B : Type} {step : PV → M Ev.Flow} (S : A → Ev.Env) (f : B → PV) (g : A → B → A) (P : Nat → A → Prop) : ∀ {bs : List B} {i : Nat} {a : A}, P i a → (∀ k a b, bs[k]? = some b → P (i + k) a → step (f b) (S a) = .ok .next (S (g a b)) ∧ P (i + k + 1) (g a b)) → forLoop step (bs.map f) (S a) = .ok .next (S (bs.foldl g a)) ∧ P (i + bs.length) (bs.foldl g a)
  | [], i, a, ha, _ => ⟨rfl, ha⟩
  | b :: bs, i, a, ha, H => by
    obtain ⟨h1, h2⟩ := H 0 a b rfl ha
    have ih := for_mapI S f g P (bs := bs) (i := i + 1) h2 fun k a y hy hs => by
      have := H (k + 1) a y (by simpa using hy) (by rw [show i + (k + 1) = i + 1 + k by omega]; exact hs)
      rw [show i + (k + 1) + 1 = i + 1 + k + 1 by omega] at this
      exact this
    refine ⟨?_, by rw [List.length_cons, show i + (bs.length + 1) = i + 1 + bs.length by omega]; exact ih.2⟩
    exact (show (step (f b) (S a)).andThen _ = _ by rw [h1]; exact ih.1)
theorem pow47 : binOp .Pow (.int 10) (.int 47) = some (.frz (.int (10 ^ 47))) := by
  show (if powOk 10 47 then some (Rv.frz (.int ((10 : Int) ^ (47 : Int).toNat))) else none) = _
  rw [if_pos (by decide +kernel)]; rfl
theorem pow7 : binOp .Pow (.int (10 ^ 47)) (.int 7) = some (.frz (.int ((10 ^ 47) ^ 7))) := by
  show (if powOk (10 ^ 47) 7 then some (Rv.frz (.int (((10 ^ 47) : Int) ^ (7 : Int).toNat))) else none) = _
  rw [if_pos (by decide +kernel)]; rfl
theorem pow16 : binOp .Pow (.int 10) (.int 16) = some (.frz (.int (10 ^ 16))) := by
  show (if powOk 10 16 then some (Rv.frz (.int ((10 : Int) ^ (16 : Int).toNat))) else none) = _
  rw [if_pos (by decide +kernel)]; rfl
theorem modP {i : Int} : binOp .Mod (.int i) (.int ((10 ^ 47) ^ 7)) = some (.frz (.int (i % (10 ^ 47) ^ 7))) := o_mod (by decide +kernel)
theorem idx_scr {ns : List Int} {k : Nat} (h : k < ns.length) : idxOp (scriptV ns) (.int (k : Int)) = some (.int ns[k]) := by
  show (Ev.ixN (ns.map PyData.int).length (k : Int)).bind _ = _
  rw [ixN_nat (by simpa using h)]
  show (ns.map PyData.int)[k]? = _
  rw [List.getElem?_map, List.getElem?_eq_getElem h]
  rfl
theorem ewer (n : Nat) (ns : List Int) (k : Nat) : ∃ e, Ew e ∧ prg.Φ (n + 1) 13 [scriptV ns, .int (k : Nat)] = some (.own e, []) := by
  have m1 : ∀ j, mulOk 827 j = true := fun j => mul_l (by decide)
  have m2 : ∀ i, mulOk i 113 = true := fun j => mul_r (by decide)
  have m3 : ∀ j, mulOk 1123 j = true := fun j => mul_l (by decide)
  have m4 : ∀ j, mulOk 53 j = true := fun j => mul_l (by decide)
  have p1 : (0 : Int) < 2305843009213693907 := by decide
  have w1 := pow47
  have w2 := pow7
  have w3 := pow16
  have w4 := @modP
  have bl := b_lenS (ns := ns)
  have lm : 0 + 1 + 1 + 1 ≤ lim := by decide
  by_cases h : k < ns.length
  · have ix := idx_scr h
    have hc : (k : Int) < (ns.length : Nat) := by omega
    obtain ⟨a, b, c, s, hk⟩ : ∃ a b c s, evSs (prg.cf n) b13 [.frz (scriptV ns), .frz (.int (k : Nat)), .emp, .emp, .emp] = .ok (.ret (.own (.list [.int a, .int b, .int c]))) s := by
      unfold b13
      refine ⟨?_, ?_, ?_, ?_, ?_⟩
      rotate_left 4
      · trivial
        rfl
    exact ⟨_, ⟨a, b, c, rfl⟩, by rw [phi_run (d := d13) rfl]; exact run_own rfl (by decide) hk rfl⟩
  · have hc : ¬ (k : Int) < (ns.length : Nat) := by omega
    obtain ⟨a, b, c, s, hk⟩ : ∃ a b c s, evSs (prg.cf n) b13 [.frz (scriptV ns), .frz (.int (k : Nat)), .emp, .emp, .emp] = .ok (.ret (.own (.list [.int a, .int b, .int c]))) s := by
      unfold b13
      clear h
      refine ⟨?_, ?_, ?_, ?_, ?_⟩
      rotate_left 4
      · trivial
        rfl
    exact ⟨_, ⟨a, b, c, rfl⟩, by rw [phi_run (d := d13) rfl]; exact run_own rfl (by decide) hk rfl⟩
theorem drip (n : Nat) (e : PV) (t : Int) (he : Ew e) (h0 : 0 < t) (h1 : t < 2 ^ 62) : ∃ r e', Ew e' ∧ 0 ≤ r ∧ r < t ∧ prg.Φ (n + 1) 14 [e, .int t] = some (.frz (.int r), [e']) := by
  obtain ⟨a, b, c, rfl⟩ := he
  rw [phi_run (d := d14) rfl]
  have h2 : t < 2 ^ 4000 := Int.lt_trans h1 big62
  by_cases ha : 0 < a
  · refine ⟨a % t, .list [.int (a / t), .int b, .int c], ⟨_, _, _, rfl⟩, Int.emod_nonneg _ (by omega), Int.emod_lt_of_pos _ h0, ?_⟩
    refine run_frz rfl (by decide) (s := [.io (.list [.int (a / t), .int b, .int c]), .frz (.int t), .frz (.int (a % t)), .emp, .emp]) ?_ rfl
    show evSs _ b14 [.io (.list [.int a, .int b, .int c]), .frz (.int t), .emp, .emp, .emp] = _
    unfold b14
    trivial
  · have m1 : ∀ j, mulOk 32452843 j = true := fun j => mul_l (by decide)
    have m2 : ∀ j, mulOk 317 j = true := fun j => mul_l (by decide)
    have m3 : ∀ i, mulOk i 15485867 = true := fun j => mul_r (by decide)
    have h3 := big65647
    have p1 : (0 : Int) < 2305843009213693951 := by decide
    have p2 : (0 : Int) < 2305843009213693921 := by decide
    have p3 : (0 : Int) < 65647 := by decide
    let one := (b + 32452843 * (c + 1)) % 2305843009213693951
    let two := (one * one + 317 * (c + 1)) % 2305843009213693921 * 15485867 + one
    have m4 : mulOk ((b + 32452843 * (c + 1)) % 2305843009213693951) ((b + 32452843 * (c + 1)) % 2305843009213693951) = true := mul_l (by omega)
    refine ⟨two / 65647 % t, .list [.int a, .int b, .int (c + 1)], ⟨_, _, _, rfl⟩, Int.emod_nonneg _ (by omega), Int.emod_lt_of_pos _ h0, ?_⟩
    refine run_frz rfl (by decide) (s := [.io (.list [.int a, .int b, .int (c + 1)]), .frz (.int t), .emp, .frz (.int one), .frz (.int two)]) ?_ rfl
    show evSs _ b14 [.io (.list [.int a, .int b, .int c]), .frz (.int t), .emp, .emp, .emp] = _
    unfold b14
    trivial
    rfl
theorem sip (n : Nat) (e : PV) (xs : List PV) (he : Ew e) (h0 : 0 < xs.length) (h1 : xs.length < 2 ^ 24) : ∃ x e', Ew e' ∧ x ∈ xs ∧ prg.Φ (n + 2) 15 [e, .list xs] = some (.frz x, [e']) := by
  obtain ⟨r, e', he', r0, r1, hd⟩ := drip n e xs.length he (by omega) (by omega)
  obtain ⟨k, rfl⟩ : ∃ k : Nat, r = (k : Int) := ⟨r.toNat, by omega⟩
  have hk : k < xs.length := by omega
  refine ⟨xs[k], e', he', List.getElem_mem _, ?_⟩
  rw [phi_run (d := d15) rfl]
  refine run_frz rfl (by decide) (s := [.io e', .frz (.list xs)]) ?_ rfl
  show evSs _ b15 [.io e, .frz (.list xs)] = _
  unfold b15
  have hl : prg.lent 14 = [0] := rfl
  have hi : idxOp (.list xs) (.int (k : Nat)) = some xs[k] := i_lN (List.getElem?_eq_getElem hk)
  trivial
def isI : PV → Bool | .int _ => true | _ => false
theorem phi16 (n : Nat) {v : PV} (hv : isScript v = false) : prg.Φ (n + 1) 16 [v] = some (.frz (.bool (isI v)), []) := by
  rw [phi_run (d := d16) rfl]
  refine run_frz rfl (by decide) (s := [.frz v]) ?_ rfl
  show evSs _ b16 [.frz v] = _
  unfold b16
  cases v <;> trivial <;> rfl
theorem who_len {m : Nat} {xs : List PV} (h : xs.length ≠ m) : who m (.tuple xs) = false := by
  cases hw : who m (.tuple xs) with
  | false => rfl
  | true =>
    obtain ⟨o, rfl, ho⟩ := who_iff.mp hw
    exact absurd (by simpa [nats] using ho.length_eq) h
theorem toI_ints (l : List Int) : (l.map PyData.int).map toI = l := by
  rw [List.map_map]
  conv => rhs; rw [← List.map_id l]
  rfl
theorem who_ints {m : Nat} (l : List Int) : who m (.tuple (l.map .int)) = decide (srt l = rngI m) := by
  by_cases hs : srt l = rngI m
  · rw [decide_eq_true hs, who_iff]
    have hp := srt_iff.mp hs
    refine ⟨l.map Int.toNat, ?_, ?_⟩
    · unfold nats
      rw [List.map_map]
      refine List.map_congr_left fun i hi => ?_
      have hm := hp.mem_iff.mp hi
      unfold rngI at hm
      obtain ⟨j, _, rfl⟩ := List.mem_map.mp hm
      rfl
    · have := hp.map Int.toNat
      unfold rngI at this
      rw [List.map_map (l := List.range m)] at this
      have e2 : (List.range m).map (Int.toNat ∘ fun (i : Nat) => (i : Int)) = List.range m := by
        conv => rhs; rw [← List.map_id (List.range m)]
        exact List.map_congr_left fun x _ => by simp
      rwa [e2] at this
  · rw [decide_eq_false hs]
    show ((l.map PyData.int).all _ && decide (srt ((l.map PyData.int).map toI) = rngI m)) = false
    rw [toI_ints, decide_eq_false hs, Bool.and_false]
theorem isI_int {v : PV} (h : isI v = true) : v = .int (toI v) := by cases v <;> first | rfl | cases h
theorem phi18 (n : Nat) {m : Nat} (hm : m ≤ 1000) {v : PV} (hv : Clean v) : prg.Φ (n + 2) 18 [.int (m : Nat), v] = some (.frz (.bool (who m v)), []) := by
  rw [phi_run (d := d18) rfl]
  have hl0 : prg.lent 16 = [] := rfl
  have hv1 := hv.1
  by_cases ht : ∃ xs, v = .tuple xs
  · obtain ⟨xs, rfl⟩ := ht
    have hx := hv.2 xs rfl
    refine run_frz rfl (by decide) (s := [.frz (.int (m : Nat)), .frz (.tuple xs), .emp]) ?_ rfl
    show evSs _ b18 [.frz (.int (m : Nat)), .frz (.tuple xs), .emp] = _
    unfold b18
    by_cases hlen : ((xs.length : Nat) : Int) = (m : Nat)
    · have hl : lcAll [2] (lcTurn (prg.cf (n + 1)) (.name 2) [.not (.call 16 [.var 2])] (.cint 1)) xs [.frz (.int (m : Nat)), .frz (.tuple xs), .emp] = .ok (.own (.list (((xs.filter fun x => !isI x).map fun _ => (1 : Int)).map .int))) [.frz (.int (m : Nat)), .frz (.tuple xs), .emp] := by
        rw [List.map_map]
        have := lc_filB (vs := [2]) (f := lcTurn (prg.cf (n + 1)) (.name 2) [.not (.call 16 [.var 2])] (.cint 1)) (s0 := [.frz (.int (m : Nat)), .frz (.tuple xs), .emp]) (h := [.frz (.int (m : Nat)), .frz (.tuple xs), .emp]) id (fun x => !isI x) (fun _ => PyData.int 1) (bs := xs) rfl fun x hxx => by
          refine ⟨[.frz (.int (m : Nat)), .frz (.tuple xs), .frz x], ?_, rfl⟩
          have hp := phi16 n (hx x hxx)
          cases hq : isI x with
          | true => rw [hq] at hp; clear hq; show lcTurn _ _ _ _ x _ = _; trivial
          | false => rw [hq] at hp; clear hq; show lcTurn _ _ _ _ x _ = _; trivial
        rw [List.map_id] at this
        exact this
      have hit : items .val [.tuple xs] = some xs := rfl
      have hq := eq_LL ((xs.filter fun x => !isI x).map fun _ => (1 : Int)) []
      have hq2 : eqOp (.list (((xs.filter fun x => !isI x).map fun _ => (1 : Int)).map .int)) (.list []) = some (decide (((xs.filter fun x => !isI x).map fun _ => (1 : Int)) = [])) := hq
      clear hq
      by_cases hi : xs.all isI = true
      · have hn : (xs.filter fun x => !isI x) = [] := by
          rw [List.filter_eq_nil_iff]
          intro x hxx
          simp [List.all_eq_true.mp hi x hxx]
        have e : xs = (xs.map toI).map .int := by
          rw [List.map_map]
          conv => lhs; rw [← List.map_id xs]
          exact List.map_congr_left fun x hxx => isI_int (List.all_eq_true.mp hi x hxx)
        have hs : bltOp .sorted [.tuple xs] = some (.own (.list ((srt (xs.map toI)).map .int))) := by
          have h := b_sortT (xs.map toI)
          rw [← e] at h
          exact h
        have hw : who m (.tuple xs) = decide (srt (xs.map toI) = rngI m) := by
          have h := who_ints (m := m) (xs.map toI)
          rw [← e] at h
          exact h
        rw [hw]
        clear e hw
        have hr : items .rng [.int (m : Nat)] = some ((rngI m).map .int) := rng_ints rfl (by unfold lim; omega)
        have hq := eq_LL (srt (xs.map toI)) (rngI m)
        rw [hn] at hl hq2
        simp only [List.map_nil] at hl hq2
        clear hi hn hx
        trivial
      · have hn : ¬ ((xs.filter fun x => !isI x).map fun _ => (1 : Int)) = [] := by
          intro h
          apply hi
          rw [List.map_eq_nil_iff, List.filter_eq_nil_iff] at h
          rw [List.all_eq_true]
          intro x hxx
          simpa using h x hxx
        have hw : who m (.tuple xs) = false := by
          cases hw : who m (.tuple xs) with
          | false => rfl
          | true =>
            obtain ⟨o, rfl, ho⟩ := who_iff.mp hw
            exact absurd (by unfold nats; rw [List.all_map]; simp [isI]) hi
        rw [hw]
        clear hi hx hw
        trivial
    · have hw := who_len (m := m) (xs := xs) (by omega)
      rw [hw]
      clear hx hw
      trivial
  · refine run_frz rfl (by decide) (s := [.frz (.int (m : Nat)), .frz v, .emp]) ?_ rfl
    show evSs _ b18 [.frz (.int (m : Nat)), .frz v, .emp] = _
    unfold b18
    cases v with
    | tuple xs => exact absurd ⟨xs, rfl⟩ ht
    | _ => trivial; rfl
theorem nats_len (o : List Nat) : (nats o).length = o.length := by simp [nats]
theorem in_odv (k : Nat) (o : List Nat) : inOp (.int (k : Int)) (odv o) = some (decide (k ∈ o)) := by
  unfold odv
  rw [nats_ints, in_T]
  congr 1
  rw [decide_eq_decide, List.mem_map]
  constructor
  · rintro ⟨j, hj, e⟩
    have : j = k := by omega
    rwa [← this]
  · exact fun h => ⟨k, h, rfl⟩
theorem odv_app (o : List Nat) (t : Nat) (h : o.length + 1 ≤ lim) : binOp .Add (odv o) (.tuple [.int (t : Nat)]) = some (.frz (odv (o ++ [t]))) := by
  unfold odv
  rw [o_catT (by simpa [nats_len] using h)]
  simp [nats]
theorem rng_map {m : Int} {n : Nat} (hm : m = n) (h : n ≤ lim) : items .rng [.int m] = some ((List.range n).map fun (i : Nat) => PyData.int (i : Int)) := by
  rw [hm, it_rng h]
theorem len_ext (m : Nat) (L : List (List Nat)) : (Mth.ext m L).length ≤ L.length * m := by
  unfold Mth.ext
  rw [List.length_flatMap]
  induction L with
  | nil => simp
  | cons o L ih =>
    simp only [List.map_cons, List.sum_cons, List.length_map, List.length_cons] at ih ⊢
    have := List.length_filter_le (fun t => !o.contains t) (List.range m)
    rw [List.length_range] at this
    rw [Nat.add_mul]
    omega
def nexts (m : Nat) (o : List Nat) : List (List Nat) := ((List.range m).filter fun t => !o.contains t).map fun t => o ++ [t]
theorem ext_flat (m : Nat) (L : List (List Nat)) : Mth.ext m L = L.flatMap (nexts m) := rfl
theorem nexts_len (m : Nat) (o : List Nat) : (nexts m o).length ≤ m := by
  unfold nexts
  rw [List.length_map]
  have := List.length_filter_le (fun t => !o.contains t) (List.range m)
  simpa using this
theorem flat_fold (m : Nat) : ∀ (L : List (List Nat)) (acc : List (List Nat)), L.foldl (fun acc o => acc ++ nexts m o) acc = acc ++ L.flatMap (nexts m)
  | [], acc => by simp
  | o :: L, acc => by rw [List.foldl_cons, flat_fold m L, List.flatMap_cons, List.append_assoc]
theorem orders (n : Nat) {m : Nat} (hm : m ≤ 6) : prg.Φ (n + 1) 17 [.int (m : Nat)] = some (.own (.list ((Mth.ords m).map odv)), []) := by
  rw [phi_run (d := d17) rfl]
  have hrg := rng_map (m := (m : Int)) (n := m) rfl (by unfold lim; omega)
  let lcE : E := .lc [("task", 5)] (.bin .Add (.peek 4) (.tup [.var 5])) (.name 5) .rng [.var 0] [.cmp .NotIn (.peek 5) (.peek 4)]
  -- the inner loop
  have inner : ∀ (L : List (List Nat)) (k : Nat) (s2 s4 : Slot), (∀ o ∈ L, o.length ≤ m) → L.length ≤ 46656 → isIo s4 = false → ∃ s4', isIo s4' = false ∧
      forLoop (turn (prg.cf n) (.name 4) [.mut .extend 3 [lcE]]) (L.map odv) [.frz (.int (m : Nat)), .frz (.list (L.map odv)), s2, .own (.list []), s4, .emp] = .ok .next [.frz (.int (m : Nat)), .frz (.list (L.map odv)), s2, .own (.list ((Mth.ext m L).map odv)), s4', .emp] := by
    intro L k s2 s4 hL hlen h4
    let S : List (List Nat) × Slot → Ev.Env := fun a => [.frz (.int (m : Nat)), .frz (.list (L.map odv)), s2, .own (.list (a.1.map odv)), a.2, .emp]
    let g : List (List Nat) × Slot → List Nat → List (List Nat) × Slot := fun a o => (a.1 ++ nexts m o, .frz (odv o))
    have hloop := for_mapI (step := turn (prg.cf n) (.name 4) [.mut .extend 3 [lcE]]) S odv g (fun k a => a.1.length ≤ k * m ∧ isIo a.2 = false) (bs := L) (i := 0) (a := ([], s4)) ⟨by simp, h4⟩ fun k a o ho ha => by
      obtain ⟨acc, sl⟩ := a
      obtain ⟨ha1, ha2⟩ := ha
      simp only [Nat.zero_add] at ha1 ha2 ⊢
      have hk : k < L.length := (List.getElem?_eq_some_iff.mp ho).1
      have hmem := List.mem_of_getElem? ho
      have hn := nexts_len m o
      refine ⟨?_, by
        simp only [g, List.length_append]
        rw [Nat.add_mul]
        omega, rfl⟩
      have hkm : k * m ≤ 46656 * 6 := Nat.mul_le_mul (by omega) hm
      have hl : lcAll [5] (lcTurn (prg.cf n) (.name 5) [.cmp .NotIn (.peek 5) (.peek 4)] (.bin .Add (.peek 4) (.tup [.var 5]))) ((List.range m).map fun (i : Nat) => PyData.int (i : Int)) [.frz (.int (m : Nat)), .frz (.list (L.map odv)), s2, .own (.list (acc.map odv)), .frz (odv o), .emp] = .ok (.own (.list ((nexts m o).map odv))) [.frz (.int (m : Nat)), .frz (.list (L.map odv)), s2, .own (.list (acc.map odv)), .frz (odv o), .emp] := by
        unfold nexts
        rw [List.map_map]
        refine lc_filB (h := [.frz (.int (m : Nat)), .frz (.list (L.map odv)), s2, .own (.list (acc.map odv)), .frz (odv o), .emp]) (fun (i : Nat) => PyData.int (i : Int)) (fun t => !o.contains t) (fun t => odv (o ++ [t])) rfl fun t ht => ?_
        refine ⟨[.frz (.int (m : Nat)), .frz (.list (L.map odv)), s2, .own (.list (acc.map odv)), .frz (odv o), .frz (.int (t : Nat))], ?_, rfl⟩
        have h1 := in_odv t o
        have h2 := odv_app o t (by have := hL o hmem; unfold lim; omega)
        by_cases hq : t ∈ o
        · have e : o.contains t = true := by simpa using hq
          rw [e]
          rw [decide_eq_true hq] at h1
          clear hq e ht
          trivial
        · have e : o.contains t = false := by simpa using hq
          rw [e]
          rw [decide_eq_false hq] at h1
          clear hq e ht
          trivial
      have hu : muOp .extend (.list (acc.map odv)) [.list ((nexts m o).map odv)] = some (.list ((acc ++ nexts m o).map odv)) := by
        rw [u_ext (by simp only [List.length_map]; unfold lim; omega), List.map_append]
      show turn _ _ _ (odv o) [.frz (.int (m : Nat)), .frz (.list (L.map odv)), s2, .own (.list (acc.map odv)), sl, .emp] = .ok .next [.frz (.int (m : Nat)), .frz (.list (L.map odv)), s2, .own (.list ((acc ++ nexts m o).map odv)), .frz (odv o), .emp]
      show turn _ _ [.mut .extend 3 [.lc [("task", 5)] (.bin .Add (.peek 4) (.tup [.var 5])) (.name 5) .rng [.var 0] [.cmp .NotIn (.peek 5) (.peek 4)]]] (odv o) _ = _
      clear ha1 ho hL hk hmem hn hkm
      cases sl with
      | io d => cases ha2
      | _ => clear ha2; trivial
    obtain ⟨h1, _, h2⟩ := hloop
    have hg : ∀ (l : List (List Nat)) (a : List (List Nat) × Slot), (l.foldl g a).1 = l.foldl (fun acc o => acc ++ nexts m o) a.1 := fun l => by
      induction l with
      | nil => intro a; rfl
      | cons i l ih => intro a; exact ih _
    refine ⟨(L.foldl g ([], s4)).2, h2, ?_⟩
    have e : (L.foldl g ([], s4)).1 = Mth.ext m L := by rw [hg, flat_fold, ext_flat]; simp
    rw [← e]
    exact h1
  -- the outer loop
  let S : List (List Nat) × Slot × Slot × Slot → Ev.Env := fun a => [.frz (.int (m : Nat)), .own (.list (a.1.map odv)), a.2.1, a.2.2.1, a.2.2.2, .emp]
  have outer := for_inv (step := turn (prg.cf n) (.name 2) [.asg (.name 3) (.lst []), .loop (.name 4) .val [.var 1] [.mut .extend 3 [lcE]], .asg (.name 1) (.blt .list [.peek 3])])
    (fun k s => ∃ s2 s3 s4, isIo s2 = false ∧ isIo s3 = false ∧ isIo s4 = false ∧ s = [.frz (.int (m : Nat)), .own (.list ((Mth.parts m k).map odv)), s2, s3, s4, .emp]) (xs := (List.range m).map fun (i : Nat) => PyData.int (i : Int)) (i := 0) (s := [.frz (.int (m : Nat)), .own (.list [odv []]), .emp, .emp, .emp, .emp]) ⟨.emp, .emp, .emp, rfl, rfl, rfl, rfl⟩ fun k x hx s hs => by
      obtain ⟨s2, s3, s4, i2, i3, i4, rfl⟩ := hs
      simp only [Nat.zero_add]
      have hk : k < m := by simpa using (List.getElem?_eq_some_iff.mp hx).1
      have hp : ∀ o ∈ Mth.parts m k, o.length ≤ m := fun o ho => by have := (Mth.mem_parts.mp ho).1; omega
      have hlen : (Mth.parts m k).length ≤ 46656 := Nat.le_trans (Mth.length_parts_le k) (Nat.le_trans (Nat.pow_le_pow_left hm k) (Nat.pow_le_pow_right (by omega) (show k ≤ 6 by omega)))
      obtain ⟨s4', i4', hin⟩ := inner (Mth.parts m k) k (.frz x) s4 hp hlen i4
      have hin : forLoop (turn (prg.cf n) (.name 4) [.mut .extend 3 [.lc [("task", 5)] (.bin .Add (.peek 4) (.tup [.var 5])) (.name 5) .rng [.var 0] [.cmp .NotIn (.peek 5) (.peek 4)]]]) _ _ = _ := hin
      refine ⟨[.frz (.int (m : Nat)), .own (.list ((Mth.parts m (k + 1)).map odv)), .frz x, .own (.list ((Mth.parts m (k + 1)).map odv)), s4', .emp], ?_, .frz x, .own (.list ((Mth.parts m (k + 1)).map odv)), s4', rfl, rfl, i4', rfl⟩
      show turn _ _ [.asg (.name 3) (.lst []), .loop (.name 4) .val [.var 1] [.mut .extend 3 [.lc [("task", 5)] (.bin .Add (.peek 4) (.tup [.var 5])) (.name 5) .rng [.var 0] [.cmp .NotIn (.peek 5) (.peek 4)]]], .asg (.name 1) (.blt .list [.peek 3])] x _ = _
      have ep : Mth.parts m (k + 1) = Mth.ext m (Mth.parts m k) := rfl
      rw [ep]
      clear hx hp hlen ep hk inner i4'
      cases s2 with
      | io d => cases i2
      | _ =>
        cases s3 with
        | io d => cases i3
        | _ => clear i2 i3 i4; trivial
  obtain ⟨s', h1, s2, s3, s4, _, _, _, hs'⟩ := outer
  subst hs'
  simp only [List.length_map, List.length_range, Nat.zero_add] at h1
  have h1 : forLoop (turn (prg.cf n) (.name 2) [.asg (.name 3) (.lst []), .loop (.name 4) .val [.var 1] [.mut .extend 3 [.lc [("task", 5)] (.bin .Add (.peek 4) (.tup [.var 5])) (.name 5) .rng [.var 0] [.cmp .NotIn (.peek 5) (.peek 4)]]], .asg (.name 1) (.blt .list [.peek 3])]) _ [.frz (.int (m : Nat)), .own (.list [.tuple []]), .emp, .emp, .emp, .emp] = _ := h1
  refine run_own rfl (by decide) (s := [.frz (.int (m : Nat)), .emp, s2, s3, s4, .emp]) ?_ rfl
  show evSs _ b17 [.frz (.int (m : Nat)), .emp, .emp, .emp, .emp, .emp] = _
  unfold b17
  clear inner
  trivial
  rfl
/-- the law's own sum -/
theorem phi20 (n : Nat) {T : List (Int × Int)} (hT : ∀ t ∈ T, Jok t) {o : List Nat} (ho : ∀ i ∈ o, i < T.length) : prg.Φ (n + 1) 20 [tk T, odv o] = some (.frz (.int (Mth.C (Mth.row T o))), []) := by
  rw [phi_run (d := d20) rfl]
  let S : (Int × Int) × Slot → Ev.Env := fun a => [.frz (tk T), .frz (odv o), .frz (.int a.1.2), .frz (.int a.1.1), a.2]
  let g : (Int × Int) × Slot → Nat → (Int × Int) × Slot := fun a i => (Mth.jstep a.1 (Mth.at_ T i), .frz (.int (i : Int)))
  have hloop := (for_map (step := turn (prg.cf n) (.name 4) [.asg (.name 2) (.bin .Add (.peek 2) (.idx (.idx (.peek 0) (.peek 4)) (.cint 0))), .asg (.name 3) (.bin .Add (.peek 3) (.bin .Mult (.peek 2) (.idx (.idx (.peek 0) (.peek 4)) (.cint 1))))]) S (fun (i : Nat) => PyData.int (i : Int)) g (fun a => isIo a.2 = false) (bs := o) (a := ((0, 0), .emp)) rfl fun a i hi hp => by
    refine ⟨?_, rfl⟩
    have h1 := idx_tk (ho i hi)
    have h2 := idx_0 (Mth.at_ T i)
    have h3 := idx_1 (Mth.at_ T i)
    have m : ∀ x, mulOk x (Mth.at_ T i).2 = true := fun x => mul_r (at_small hT i).2
    obtain ⟨⟨a1, a2⟩, sl⟩ := a
    show turn _ _ _ (.int (i : Int)) [.frz (tk T), .frz (odv o), .frz (.int a2), .frz (.int a1), sl] = .ok .next [.frz (tk T), .frz (odv o), .frz (.int (a2 + (Mth.at_ T i).1)), .frz (.int (a1 + (a2 + (Mth.at_ T i).1) * (Mth.at_ T i).2)), .frz (.int (i : Int))]
    have hp : isIo sl = false := hp
    cases sl with
    | io d => cases hp
    | _ => trivial).1
  have hf : ∀ (l : List Nat) (a : (Int × Int) × Slot), (l.foldl g a).1 = (Mth.row T l).foldl Mth.jstep a.1 := fun l => by
    induction l with
    | nil => intro a; rfl
    | cons i l ih => intro a; exact ih _
  have hr : ((o.foldl g ((0, 0), .emp)).1).1 = Mth.C (Mth.row T o) := by
    rw [hf, Mth.fold_C]; simp
  have hit : items .val [odv o] = some (nats o) := rfl
  refine run_frz rfl (by decide) (s := S (o.foldl g ((0, 0), .emp))) ?_ rfl
  show evSs _ b20 [.frz (tk T), .frz (odv o), .emp, .emp, .emp] = _
  unfold b20
  have hloop : forLoop _ (nats o) [.frz (tk T), .frz (odv o), .frz (.int 0), .frz (.int 0), .emp] = _ := hloop
  clear hT ho
  trivial
  show RE.ok (Ev.Flow.ret (.frz (.int ((o.foldl g ((0, 0), .emp)).1).1))) _ = _
  rw [hr]
theorem phi22 (n : Nat) {T : List (Int × Int)} (hT : ∀ t ∈ T, Jok t) (h9 : T.length ≤ 1000) {v : PV} (hv : Clean v) : prg.Φ (n + 3) 22 [tk T, v, .int (Mth.SM T)] = some (.frz (.bool (rle T v)), []) := by
  rw [phi_run (d := d22) rfl]
  have c2 := phi18 n (m := T.length) h9 hv
  have l2 : prg.lent 18 = [] := rfl
  have l3 : prg.lent 20 = [] := rfl
  have e2 := lenT T
  refine run_frz rfl (by decide) (s := [.frz (tk T), .frz v, .frz (.int (Mth.SM T))]) ?_ rfl
  show evSs _ b22 [.frz (tk T), .frz v, .frz (.int (Mth.SM T))] = _
  unfold b22
  unfold rle
  cases hw : who T.length v with
  | false =>
    rw [hw] at c2
    clear hT hv hw
    trivial
    rfl
  | true =>
    rw [hw] at c2
    cases v with
    | tuple xs =>
      obtain ⟨o, rfl, ho⟩ := who_iff.mp hw
      have c3 : prg.Φ (n + 1 + 1) 20 [tk T, .tuple (nats o)] = _ := phi20 (n + 1) hT (perm_lt ho)
      have en := idxs_nats o
      clear hT hv hw ho
      trivial
      rfl
    | _ => cases hw
theorem set_last {xs : List PV} {x v : PV} : setOp (.list (xs ++ [x])) (.int (-1)) v = some (.list (xs ++ [v])) := by
  show (Ev.ixN _ _).map _ = _
  unfold Ev.ixN
  have h : -(((xs ++ [x]).length : Nat) : Int) ≤ -1 := by simp; omega
  rw [if_neg (by decide), if_pos h]
  have e : (-1 + (((xs ++ [x]).length : Nat) : Int)).toNat = xs.length := by simp; omega
  rw [e]
  simp
/-- drawn tasks -/
theorem weighed (n : Nat) {e : PV} (he : Ew e) {m : Nat} (hm : m ≤ 1000) : ∃ T e', Ew e' ∧ T.length = m ∧ (∀ t ∈ T, Jok t) ∧ prg.Φ (n + 3) 19 [e, .int (m : Nat)] = some (.frz (tk T), [e']) := by
  obtain ⟨x, e1, he1, hx, hs⟩ := sip n e [.int 3, .int 6, .int 99] he (by decide) (by decide)
  obtain ⟨most, rfl, q1, q2⟩ : ∃ most : Int, x = .int most ∧ 1 ≤ most ∧ most ≤ 99 := by
    simp only [List.mem_cons, List.not_mem_nil, or_false] at hx
    rcases hx with rfl | rfl | rfl
    · exact ⟨3, rfl, by decide, by decide⟩
    · exact ⟨6, rfl, by decide, by decide⟩
    · exact ⟨99, rfl, by decide, by decide⟩
  have l15 : prg.lent 15 = [0] := rfl
  have l14 : prg.lent 14 = [0] := rfl
  have loop := for_inv (step := turn (prg.cf (n + 2)) (.name 4) [.mut .append 3 [.tup [.bin .Add (.cint 1) (.call 14 [.peek 0, .var 2]), .call 14 [.peek 0, .bin .Add (.peek 2) (.cint 1)]]], .ite (.cmp .Eq (.call 14 [.peek 0, .cint 4]) (.cint 0)) [.seti 3 (.neg (.cint 1)) (.tup [.blt .min2 [.cint 99, .bin .Mult (.cint 2) (.idx (.idx (.peek 3) (.cint 0)) (.cint 0))], .blt .min2 [.cint 99, .bin .Mult (.cint 2) (.idx (.idx (.peek 3) (.cint 0)) (.cint 1))]])] []])
    (fun k s => ∃ T e' s4, Ew e' ∧ T.length = k ∧ (∀ t ∈ T, Jok t) ∧ isIo s4 = false ∧ s = [.io e', .frz (.int (m : Nat)), .frz (.int most), .own (.list (T.map tkv)), s4]) (xs := (List.range m).map fun (i : Nat) => PyData.int (i : Int)) (i := 0) (s := [.io e1, .frz (.int (m : Nat)), .frz (.int most), .own (.list []), .emp]) ⟨[], e1, .emp, he1, rfl, by simp, rfl, rfl⟩ fun k x hx s hs => by
      obtain ⟨T, e', s4, he', hT, hJ, i4, rfl⟩ := hs
      simp only [Nat.zero_add] at hT ⊢
      have hk : k < m := by simpa using (List.getElem?_eq_some_iff.mp hx).1
      obtain ⟨r1, e2, he2, a1, a2, d1⟩ := drip (n + 1) e' most he' (by omega) (by omega)
      obtain ⟨r2, e3, he3, a3, a4, d2⟩ := drip (n + 1) e2 (most + 1) he2 (by omega) (by omega)
      obtain ⟨r3, e4, he4, a5, a6, d3⟩ := drip (n + 1) e3 4 he3 (by omega) (by omega)
      have hu : muOp .append (.list (T.map tkv)) [.tuple [.int (1 + r1), .int r2]] = some (.list (T.map tkv ++ [tkv (1 + r1, r2)])) := u_app (by simp only [List.length_map]; unfold lim; omega)
      have j1 : Jok (1 + r1, r2) := ⟨by simp only; omega, by simp only; omega, by simp only; omega, by simp only; omega⟩
      by_cases hz : r3 = 0
      · -- the last is the first one, twice
        obtain ⟨t0, TT, hTT⟩ : ∃ t0 TT, T ++ [(1 + r1, r2)] = t0 :: TT := by
          cases h : T ++ [(1 + r1, r2)] with
          | nil => simp at h
          | cons a b => exact ⟨a, b, rfl⟩
        have jt : Jok t0 := by
          have : t0 ∈ T ++ [(1 + r1, r2)] := by rw [hTT]; simp
          rcases List.mem_append.mp this with h | h
          · exact hJ t0 h
          · simp at h; rw [h]; exact j1
        have hm' : T.map tkv ++ [tkv (1 + r1, r2)] = tkv t0 :: TT.map tkv := by
          rw [show T.map tkv ++ [tkv (1 + r1, r2)] = (T ++ [(1 + r1, r2)]).map tkv by simp, hTT]; rfl
        have ix : idxOp (.list (T.map tkv ++ [tkv (1 + r1, r2)])) (.int 0) = some (tkv t0) := by rw [hm']; exact i_l0
        have i0 := idx_0 t0
        have i1 := idx_1 t0
        obtain ⟨b1, b2, b3, b4⟩ := jt
        have m1 : ∀ j, mulOk 2 j = true := fun j => mul_l (by decide)
        have hst : ∀ v, setOp (.list (T.map tkv ++ [tkv (1 + r1, r2)])) (.int (-1)) v = some (.list (T.map tkv ++ [v])) := fun v => set_last
        refine ⟨[.io e4, .frz (.int (m : Nat)), .frz (.int most), .own (.list ((T ++ [(min 99 (2 * t0.1), min 99 (2 * t0.2))]).map tkv)), .frz x], ?_, T ++ [(min 99 (2 * t0.1), min 99 (2 * t0.2))], e4, .frz x, he4, by simp [hT], fun t ht => ?_, rfl, rfl⟩
        · rw [hz] at d3
          clear hz hTT hm' hJ hx b1 b2 b3 b4 a1 a2 a3 a4 a5 a6 j1 hT hk q1 q2 hs
          cases s4 with
          | io d => cases i4
          | _ =>
            clear i4
            trivial
            simp [min2_eq, tkv]
        · rcases List.mem_append.mp ht with h | h
          · exact hJ t h
          · simp at h
            rw [h]
            refine ⟨?_, ?_, ?_, ?_⟩ <;> simp only <;> omega
      · refine ⟨[.io e4, .frz (.int (m : Nat)), .frz (.int most), .own (.list ((T ++ [(1 + r1, r2)]).map tkv)), .frz x], ?_, T ++ [(1 + r1, r2)], e4, .frz x, he4, by simp [hT], fun t ht => ?_, rfl, rfl⟩
        · clear hJ hx a1 a2 a3 a4 a5 a6 j1 hT hk q1 q2 hs
          cases s4 with
          | io d => cases i4
          | _ =>
            clear i4
            trivial
            simp [tkv]
        · rcases List.mem_append.mp ht with h | h
          · exact hJ t h
          · simp at h
            rw [h]
            exact j1
  obtain ⟨s', h1, T, e', s4, he', hT, hJ, _, hs'⟩ := loop
  simp only [List.length_map, List.length_range, Nat.zero_add] at hT
  subst hs'
  refine ⟨T, e', he', hT, hJ, ?_⟩
  rw [phi_run (d := d19) rfl]
  have hrg := rng_map (m := (m : Int)) (n := m) rfl (by unfold lim; omega)
  have ht : bltOp .tuple [.list (T.map tkv)] = some (.frz (tk T)) := rfl
  refine run_frz rfl (by decide) (s := [.io e', .frz (.int (m : Nat)), .frz (.int most), .own (.list (T.map tkv)), s4]) ?_ rfl
  show evSs _ b19 [.io e, .frz (.int (m : Nat)), .emp, .emp, .emp] = _
  unfold b19
  clear hT hJ hx q1 q2
  trivial
theorem count_map (l : List (List Nat)) (f : List Nat → Int) (x : Int) : (l.map f).count x = (l.filter fun o => decide (f o = x)).length := by
  induction l with
  | nil => rfl
  | cons a l ih =>
    rw [List.map_cons, List.count_cons, List.filter_cons, ih]
    by_cases h : f a = x <;> simp [h]
theorem turned_iff {T : List (Int × Int)} : ∀ {o : List Nat}, ((o.zip (o.drop 1)).filter fun p => decide ((Mth.at_ T p.1).2 * (Mth.at_ T p.2).1 < (Mth.at_ T p.2).2 * (Mth.at_ T p.1).1)) = [] ↔ Mth.adj (Mth.row T o)
  | [] => by simp [Mth.row, Mth.adj]
  | [a] => by simp [Mth.row, Mth.adj]
  | a :: b :: o => by
    have ih := turned_iff (T := T) (o := b :: o)
    show (((a, b) :: (b :: o).zip ((b :: o).drop 1)).filter _) = [] ↔ Mth.R _ _ ∧ Mth.adj (Mth.row T (b :: o))
    rw [← ih, List.filter_cons]
    unfold Mth.R
    by_cases h : (Mth.at_ T a).2 * (Mth.at_ T b).1 < (Mth.at_ T b).2 * (Mth.at_ T a).1
    · rw [if_pos (decide_eq_true h)]
      have h2 : ¬ (Mth.at_ T a).1 * (Mth.at_ T b).2 ≤ (Mth.at_ T a).2 * (Mth.at_ T b).1 := by
        rw [Int.mul_comm (Mth.at_ T a).1]; omega
      simp [h2]
    · have h2 : (Mth.at_ T a).1 * (Mth.at_ T b).2 ≤ (Mth.at_ T a).2 * (Mth.at_ T b).1 := by
        rw [Int.mul_comm (Mth.at_ T a).1]; omega
      rw [if_neg (by simpa using h)]
      simp [h2]
theorem pos_of {T : List (Int × Int)} (h : ∀ t ∈ T, Jok t) : ∀ t ∈ T, Mth.Pos t := fun t ht => (h t ht).1
theorem zip_drop (o : List Nat) : items .zip [odv o, .tuple ((nats o).drop 1)] = some ((o.zip (o.drop 1)).map fun p => .tuple [.int (p.1 : Int), .int (p.2 : Int)]) := by
  show some (List.zipWith (fun a b => PyData.tuple [a, b]) (nats o) ((nats o).drop 1)) = _
  unfold nats
  rw [← List.map_drop, List.zipWith_map, List.zip_eq_zipWith, List.map_zipWith]
theorem mem_zip_lt {o : List Nat} {m : Nat} (h : ∀ i ∈ o, i < m) {p : Nat × Nat} (hp : p ∈ o.zip (o.drop 1)) : p.1 < m ∧ p.2 < m :=
  ⟨h _ (List.of_mem_zip hp).1, h _ (List.mem_of_mem_drop (List.of_mem_zip hp).2)⟩
section
variable {n : Nat} {T : List (Int × Int)} {mm : Int} {e : PV} {sv : List PV}
/-- one order looked at -/
theorem loop7 (hJ : ∀ t ∈ T, Jok t) {Lo : List (List Nat)} (hLo : ∀ o ∈ Lo, o.Perm (List.range T.length)) (hsv : ∀ (k : Nat) (o : List Nat), Lo[k]? = some o → sv[k]? = some (PyData.int (Mth.C (Mth.row T o)))) :
    ∃ s6 s7 s8, isIo s6 = false ∧ isIo s7 = false ∧ isIo s8 = false ∧ forLoop (turn (prg.cf n) (.tup [.name 6, .name 7]) [.asg (.name 8) (.lc [("i", 14), ("j", 15)] (.cint 1) (.tup [.name 14, .name 15]) .zip [.var 7, .slcL (.peek 7) (.cint 1)] [.cmp .Gt (.bin .Mult (.idx (.idx (.peek 2) (.peek 15)) (.cint 1)) (.idx (.idx (.peek 2) (.peek 14)) (.cint 0))) (.bin .Mult (.idx (.idx (.peek 2) (.peek 14)) (.cint 1)) (.idx (.idx (.peek 2) (.peek 15)) (.cint 0)))]), .ite (.cmp .NotEq (.cmp .Eq (.idx (.peek 4) (.peek 6)) (.peek 5)) (.cmp .Eq (.peek 8) (.lst []))) [.ret (.cbl false)] []]) (Lo.zipIdx.map fun p => PyData.tuple [.int (p.2 : Nat), odv p.1]) [.io e, .frz (.int (mm : Int)), .frz (tk T), .frz (.list (Lo.map odv)), .own (.list sv), .frz (.int (Mth.SM T)), .emp, .emp, .emp, .emp, .emp, .emp, .emp, .emp, .emp, .emp, .emp, .emp] = .ok .next [.io e, .frz (.int (mm : Int)), .frz (tk T), .frz (.list (Lo.map odv)), .own (.list sv), .frz (.int (Mth.SM T)), s6, s7, s8, .emp, .emp, .emp, .emp, .emp, .emp, .emp, .emp, .emp] := by
  have H := for_inv (step := turn (prg.cf n) (.tup [.name 6, .name 7]) [.asg (.name 8) (.lc [("i", 14), ("j", 15)] (.cint 1) (.tup [.name 14, .name 15]) .zip [.var 7, .slcL (.peek 7) (.cint 1)] [.cmp .Gt (.bin .Mult (.idx (.idx (.peek 2) (.peek 15)) (.cint 1)) (.idx (.idx (.peek 2) (.peek 14)) (.cint 0))) (.bin .Mult (.idx (.idx (.peek 2) (.peek 14)) (.cint 1)) (.idx (.idx (.peek 2) (.peek 15)) (.cint 0)))]), .ite (.cmp .NotEq (.cmp .Eq (.idx (.peek 4) (.peek 6)) (.peek 5)) (.cmp .Eq (.peek 8) (.lst []))) [.ret (.cbl false)] []]) (fun k s => ∃ s6 s7 s8, isIo s6 = false ∧ isIo s7 = false ∧ isIo s8 = false ∧ s = [.io e, .frz (.int (mm : Int)), .frz (tk T), .frz (.list (Lo.map odv)), .own (.list sv), .frz (.int (Mth.SM T)), s6, s7, s8, .emp, .emp, .emp, .emp, .emp, .emp, .emp, .emp, .emp]) (xs := Lo.zipIdx.map fun p => PyData.tuple [.int (p.2 : Nat), odv p.1]) (i := 0) (s := [.io e, .frz (.int (mm : Int)), .frz (tk T), .frz (.list (Lo.map odv)), .own (.list sv), .frz (.int (Mth.SM T)), .emp, .emp, .emp, .emp, .emp, .emp, .emp, .emp, .emp, .emp, .emp, .emp]) ⟨.emp, .emp, .emp, rfl, rfl, rfl, rfl⟩ fun k x hx s hs => by
    obtain ⟨s6, s7, s8, i6, i7, i8, rfl⟩ := hs
    rw [List.getElem?_map] at hx
    cases hz : Lo.zipIdx[k]? with
    | none => rw [hz] at hx; cases hx
    | some p =>
      rw [hz] at hx
      injection hx with hx
      subst hx
      obtain ⟨o, j⟩ := p
      have hmem := List.mem_zipIdx_iff_getElem?.mp (List.mem_of_getElem? hz)
      simp only at hmem
      have hp := hLo o (List.mem_of_getElem? hmem)
      have hlt := perm_lt hp
      have hsum : idxOp (.list sv) (.int (j : Int)) = some (.int (Mth.C (Mth.row T o))) := i_lN (hsv j o hmem)
      have hsl : slcOp (some 1) none (odv o) = some (.frz (.tuple ((nats o).drop 1))) := l_dropT (k := 1) rfl
      have hz2 := zip_drop o
      have hl : lcAll [14, 15] (lcTurn (prg.cf n) (.tup [.name 14, .name 15]) [.cmp .Gt (.bin .Mult (.idx (.idx (.peek 2) (.peek 15)) (.cint 1)) (.idx (.idx (.peek 2) (.peek 14)) (.cint 0))) (.bin .Mult (.idx (.idx (.peek 2) (.peek 14)) (.cint 1)) (.idx (.idx (.peek 2) (.peek 15)) (.cint 0)))] (.cint 1)) ((o.zip (o.drop 1)).map fun p => PyData.tuple [.int (p.1 : Int), .int (p.2 : Int)]) [.io e, .frz (.int (mm : Int)), .frz (tk T), .frz (.list (Lo.map odv)), .own (.list sv), .frz (.int (Mth.SM T)), .frz (.int (j : Int)), .frz (odv o), s8, .emp, .emp, .emp, .emp, .emp, .emp, .emp, .emp, .emp]
          = .ok (.own (.list ((((o.zip (o.drop 1)).filter fun p => decide ((Mth.at_ T p.1).2 * (Mth.at_ T p.2).1 < (Mth.at_ T p.2).2 * (Mth.at_ T p.1).1)).map fun _ => (1 : Int)).map .int))) [.io e, .frz (.int (mm : Int)), .frz (tk T), .frz (.list (Lo.map odv)), .own (.list sv), .frz (.int (Mth.SM T)), .frz (.int (j : Int)), .frz (odv o), s8, .emp, .emp, .emp, .emp, .emp, .emp, .emp, .emp, .emp] := by
        rw [List.map_map]
        refine lc_filB (vs := [14, 15]) (s0 := [.io e, .frz (.int (mm : Int)), .frz (tk T), .frz (.list (Lo.map odv)), .own (.list sv), .frz (.int (Mth.SM T)), .frz (.int (j : Int)), .frz (odv o), s8, .emp, .emp, .emp, .emp, .emp, .emp, .emp, .emp, .emp]) (h := [.io e, .frz (.int (mm : Int)), .frz (tk T), .frz (.list (Lo.map odv)), .own (.list sv), .frz (.int (Mth.SM T)), .frz (.int (j : Int)), .frz (odv o), s8, .emp, .emp, .emp, .emp, .emp, .emp, .emp, .emp, .emp]) (fun p : Nat × Nat => PyData.tuple [.int (p.1 : Int), .int (p.2 : Int)]) (fun p => decide ((Mth.at_ T p.1).2 * (Mth.at_ T p.2).1 < (Mth.at_ T p.2).2 * (Mth.at_ T p.1).1)) (fun _ => .int 1) rfl fun p hpp => ?_
        obtain ⟨a, b⟩ := p
        obtain ⟨la, lb⟩ := mem_zip_lt hlt hpp
        simp only at la lb
        refine ⟨[.io e, .frz (.int (mm : Int)), .frz (tk T), .frz (.list (Lo.map odv)), .own (.list sv), .frz (.int (Mth.SM T)), .frz (.int (j : Int)), .frz (odv o), s8, .emp, .emp, .emp, .emp, .emp, .frz (.int (a : Int)), .frz (.int (b : Int)), .emp, .emp], ?_, rfl⟩
        have ia := idx_tk la
        have ib := idx_tk lb
        have a0 := idx_0 (Mth.at_ T a)
        have a1 := idx_1 (Mth.at_ T a)
        have b0 := idx_0 (Mth.at_ T b)
        have b1 := idx_1 (Mth.at_ T b)
        have ma : ∀ x, mulOk x (Mth.at_ T a).1 = true := fun x => mul_r (at_small hJ a).1
        have mb : ∀ x, mulOk x (Mth.at_ T b).1 = true := fun x => mul_r (at_small hJ b).1
        clear hz hmem hp hlt hsum hpp la lb hJ hLo hsv
        by_cases hc : (Mth.at_ T a).2 * (Mth.at_ T b).1 < (Mth.at_ T b).2 * (Mth.at_ T a).1
        · trivial
        · trivial
      have hq := eq_LL (((o.zip (o.drop 1)).filter fun p => decide ((Mth.at_ T p.1).2 * (Mth.at_ T p.2).1 < (Mth.at_ T p.2).2 * (Mth.at_ T p.1).1)).map fun _ => (1 : Int)) []
      have hiff : decide ((((o.zip (o.drop 1)).filter fun p => decide ((Mth.at_ T p.1).2 * (Mth.at_ T p.2).1 < (Mth.at_ T p.2).2 * (Mth.at_ T p.1).1)).map fun _ => (1 : Int)) = []) = decide (Mth.C (Mth.row T o) = Mth.SM T) := by
        rw [decide_eq_decide, List.map_eq_nil_iff, turned_iff, (Mth.cost_iff hp).2]
        refine Mth.adj_iff fun t ht => ?_
        unfold Mth.row at ht
        obtain ⟨i, _, rfl⟩ := List.mem_map.mp ht
        exact Mth.at_pos (pos_of hJ) i
      rw [hiff] at hq
      have hq2 : eqOp (.list ((((o.zip (o.drop 1)).filter fun p => decide ((Mth.at_ T p.1).2 * (Mth.at_ T p.2).1 < (Mth.at_ T p.2).2 * (Mth.at_ T p.1).1)).map fun _ => (1 : Int)).map .int)) (.list []) = some (decide (Mth.C (Mth.row T o) = Mth.SM T)) := hq
      generalize hts : ((((o.zip (o.drop 1)).filter fun p => decide ((Mth.at_ T p.1).2 * (Mth.at_ T p.2).1 < (Mth.at_ T p.2).2 * (Mth.at_ T p.1).1)).map fun _ => (1 : Int)).map PyData.int) = ts at hl hq2
      refine ⟨[.io e, .frz (.int (mm : Int)), .frz (tk T), .frz (.list (Lo.map odv)), .own (.list sv), .frz (.int (Mth.SM T)), .frz (.int (j : Int)), .frz (odv o), .own (.list ts), .emp, .emp, .emp, .emp, .emp, .emp, .emp, .emp, .emp], ?_, _, _, _, rfl, rfl, rfl, rfl⟩
      have bb : ∀ b : Bool, (b == b) = true := fun b => by cases b <;> rfl
      clear hz hmem hp hlt hJ hLo hq hiff hts hsv
      show turn _ _ _ (.tuple [.int (j : Int), odv o]) _ = _
      cases s6 with
      | io d => cases i6
      | _ =>
        cases s7 with
        | io d => cases i7
        | _ =>
          cases s8 with
          | io d => cases i8
          | _ => clear i6 i7 i8; trivial
  obtain ⟨s', h1, s6, s7, s8, i6, i7, i8, rfl⟩ := H
  exact ⟨s6, s7, s8, i6, i7, i8, h1⟩
end
theorem rle_good {T : List (Int × Int)} {o : List Nat} (h : o.Perm (List.range T.length)) : rle T (odv o) = decide (Mth.C (Mth.row T o) = Mth.SM T) := by
  show (who T.length (odv o) && decide (Mth.C (Mth.row T (idxs (nats o))) = Mth.SM T)) = _
  rw [show who T.length (odv o) = true from who_iff.mpr ⟨o, rfl, h⟩, idxs_nats, Bool.true_and]
theorem bool_eq (b : Bool) : (b == b) = true := by cases b <;> rfl
section
variable {n : Nat} {T : List (Int × Int)} {mm : Int} {e : PV} {sv : List PV}
theorem loop8 (hV : Vd T) {Lo : List (List Nat)} (h0 : 0 < Lo.length) (hlen : Lo.length ≤ 46656) (hLo : ∀ o ∈ Lo, o.Perm (List.range T.length)) (hsv : ∀ (k : Nat) (o : List Nat), Lo[k]? = some o → sv[k]? = some (PyData.int (Mth.C (Mth.row T o)))) (he : Ew e) {s6 s7 s8 : Slot} (i6 : isIo s6 = false) :
    ∃ e' t6 t9, Ew e' ∧ isIo t6 = false ∧ isIo t9 = false ∧ forLoop (turn (prg.cf (n + 6)) (.name 9) [.asg (.name 6) (.call 14 [.peek 0, .blt .len [.peek 3]]), .ite (.bop .Or [.cmp .NotEq (.call 9 [.var 2, .idx (.peek 3) (.peek 6)]) (.idx (.peek 4) (.peek 6)), .cmp .NotEq (.call 11 [.var 2, .idx (.peek 3) (.peek 6)]) (.cmp .Eq (.idx (.peek 4) (.peek 6)) (.peek 5))]) [.ret (.cbl false)] []]) ((List.range 12).map fun (i : Nat) => PyData.int (i : Int)) [.io e, .frz (.int (mm : Int)), .frz (tk T), .frz (.list (Lo.map odv)), .own (.list sv), .frz (.int (Mth.SM T)), s6, s7, s8, .emp, .emp, .emp, .emp, .emp, .emp, .emp, .emp, .emp] = .ok .next [.io e', .frz (.int (mm : Int)), .frz (tk T), .frz (.list (Lo.map odv)), .own (.list sv), .frz (.int (Mth.SM T)), t6, s7, s8, t9, .emp, .emp, .emp, .emp, .emp, .emp, .emp, .emp] := by
  have H := for_inv (step := turn (prg.cf (n + 6)) (.name 9) [.asg (.name 6) (.call 14 [.peek 0, .blt .len [.peek 3]]), .ite (.bop .Or [.cmp .NotEq (.call 9 [.var 2, .idx (.peek 3) (.peek 6)]) (.idx (.peek 4) (.peek 6)), .cmp .NotEq (.call 11 [.var 2, .idx (.peek 3) (.peek 6)]) (.cmp .Eq (.idx (.peek 4) (.peek 6)) (.peek 5))]) [.ret (.cbl false)] []]) (fun k s => ∃ e' s6 s9, Ew e' ∧ isIo s6 = false ∧ isIo s9 = false ∧ s = [.io e', .frz (.int (mm : Int)), .frz (tk T), .frz (.list (Lo.map odv)), .own (.list sv), .frz (.int (Mth.SM T)), s6, s7, s8, s9, .emp, .emp, .emp, .emp, .emp, .emp, .emp, .emp]) (xs := (List.range 12).map fun (i : Nat) => PyData.int (i : Int)) (i := 0) (s := [.io e, .frz (.int (mm : Int)), .frz (tk T), .frz (.list (Lo.map odv)), .own (.list sv), .frz (.int (Mth.SM T)), s6, s7, s8, .emp, .emp, .emp, .emp, .emp, .emp, .emp, .emp, .emp]) ⟨e, s6, .emp, he, i6, rfl, rfl⟩ fun k x hx s hs => by
    obtain ⟨e', s6, s9, he', i6, i9, rfl⟩ := hs
    obtain ⟨r, e2, he2, a1, a2, hd⟩ := drip (n + 5) e' (Lo.length : Nat) he' (by omega) (by omega)
    obtain ⟨j, rfl⟩ : ∃ j : Nat, r = (j : Int) := ⟨r.toNat, by omega⟩
    have hj : j < Lo.length := by omega
    have hg : Lo[j]? = some Lo[j] := List.getElem?_eq_getElem hj
    have hp := hLo Lo[j] (List.getElem_mem _)
    have hix : idxOp (.list (Lo.map odv)) (.int (j : Int)) = some (odv Lo[j]) := i_lN (by rw [List.getElem?_map, hg]; rfl)
    have hsum : idxOp (.list sv) (.int (j : Int)) = some (.int (Mth.C (Mth.row T Lo[j]))) := i_lN (hsv j _ hg)
    have c9 := phi9 (n + 2) hV hp
    have c11 := phi11 (n + 2) hV (clean_odv Lo[j])
    rw [rle_good hp] at c11
    have hlen2 : bltOp .len [.list (Lo.map odv)] = some (.frz (.int (Lo.length : Nat))) := by simp [bltOp]
    have l14 : prg.lent 14 = [0] := rfl
    have l9 : prg.lent 9 = [] := rfl
    have l11 : prg.lent 11 = [] := rfl
    have bb := bool_eq
    generalize hoj : Lo[j] = oj at *
    refine ⟨[.io e2, .frz (.int (mm : Int)), .frz (tk T), .frz (.list (Lo.map odv)), .own (.list sv), .frz (.int (Mth.SM T)), .frz (.int (j : Int)), s7, s8, .frz x, .emp, .emp, .emp, .emp, .emp, .emp, .emp, .emp], ?_, e2, _, _, he2, rfl, rfl, rfl⟩
    clear hp hg hj hoj a1 a2 hV hLo hsv hx hlen h0
    cases s6 with
    | io d => cases i6
    | _ =>
      cases s9 with
      | io d => cases i9
      | _ => clear i6 i9; trivial
  obtain ⟨s', h1, e', t6, t9, he', i6', i9', rfl⟩ := H
  exact ⟨e', t6, t9, he', i6', i9', h1⟩
theorem loop11 (hV : Vd T) {Lo : List (List Nat)} {od : List PV} (hod : ∀ v ∈ od, Clean v) {s6 s7 s8 s9 s10 : Slot} :
    ∃ t12, isIo t12 = false ∧ forLoop (turn (prg.cf (n + 6)) (.name 12) [.ite (.cmp .NotEq (.blt .repr [.call 11 [.var 2, .var 12]]) (.blt .repr [.call 22 [.var 2, .var 12, .var 5]])) [.ret (.cbl false)] []]) od [.io e, .frz (.int (mm : Int)), .frz (tk T), .frz (.list (Lo.map odv)), .own (.list sv), .frz (.int (Mth.SM T)), s6, s7, s8, s9, s10, .frz (.list od), .emp, .emp, .emp, .emp, .emp, .emp] = .ok .next [.io e, .frz (.int (mm : Int)), .frz (tk T), .frz (.list (Lo.map odv)), .own (.list sv), .frz (.int (Mth.SM T)), s6, s7, s8, s9, s10, .frz (.list od), t12, .emp, .emp, .emp, .emp, .emp] := by
  have H := for_inv (step := turn (prg.cf (n + 6)) (.name 12) [.ite (.cmp .NotEq (.blt .repr [.call 11 [.var 2, .var 12]]) (.blt .repr [.call 22 [.var 2, .var 12, .var 5]])) [.ret (.cbl false)] []]) (fun k s => ∃ s12, isIo s12 = false ∧ s = [.io e, .frz (.int (mm : Int)), .frz (tk T), .frz (.list (Lo.map odv)), .own (.list sv), .frz (.int (Mth.SM T)), s6, s7, s8, s9, s10, .frz (.list od), s12, .emp, .emp, .emp, .emp, .emp]) (xs := od) (i := 0) (s := [.io e, .frz (.int (mm : Int)), .frz (tk T), .frz (.list (Lo.map odv)), .own (.list sv), .frz (.int (Mth.SM T)), s6, s7, s8, s9, s10, .frz (.list od), .emp, .emp, .emp, .emp, .emp, .emp]) ⟨.emp, rfl, rfl⟩ fun k x hx s hs => by
    obtain ⟨s12, i12, rfl⟩ := hs
    have hc := hod x (List.mem_of_getElem? hx)
    have c11 := phi11 (n + 2) hV hc
    have c22 := phi22 (n + 3) hV.2.2 (by have := hV.2.1; omega) hc
    have l11 : prg.lent 11 = [] := rfl
    have l22 : prg.lent 22 = [] := rfl
    have hstr : ∀ b : Bool, eqOp (.str (if b = true then "True" else "False")) (.str (if b = true then "True" else "False")) = some true := fun b => by cases b <;> decide +kernel
    refine ⟨[.io e, .frz (.int (mm : Int)), .frz (tk T), .frz (.list (Lo.map odv)), .own (.list sv), .frz (.int (Mth.SM T)), s6, s7, s8, s9, s10, .frz (.list od), .frz x, .emp, .emp, .emp, .emp, .emp], ?_, _, rfl, rfl⟩
    clear hod hx hV hc
    cases s12 with
    | io d => cases i12
    | _ => clear i12; trivial
  obtain ⟨s', h1, t12, i12, rfl⟩ := H
  exact ⟨t12, i12, h1⟩
end
def dbl (t : Int × Int) : Int × Int := (2 * t.1, t.2)
theorem sumP_dbl (t : Int × Int) : ∀ L : List (Int × Int), Mth.sumP (dbl t) (L.map dbl) = 2 * Mth.sumP t L
  | [] => by simp [Mth.sumP]
  | o :: L => by
    have ih := sumP_dbl t L
    simp only [Mth.sumP, List.map_cons, List.sum_cons] at ih ⊢
    rw [ih]
    have : Mth.pr (dbl t) (dbl o) = 2 * Mth.pr t o := by
      unfold Mth.pr dbl
      simp only
      rw [Int.mul_left_comm t.2 2, Int.mul_left_comm o.2 2]
      omega
    rw [this]
    omega
theorem SM_dbl : ∀ L : List (Int × Int), Mth.SM (L.map dbl) = 2 * Mth.SM L
  | [] => by simp [Mth.SM]
  | t :: L => by
    simp only [List.map_cons, Mth.SM, sumP_dbl, SM_dbl L]
    have : (dbl t).1 * (dbl t).2 = 2 * (t.1 * t.2) := by unfold dbl; simp only; rw [Int.mul_assoc]
    rw [this]
    omega
theorem sumP_nonneg (t : Int × Int) (ht : Jok t) : ∀ L : List (Int × Int), (∀ o ∈ L, Jok o) → 0 ≤ Mth.sumP t L
  | [], _ => by simp [Mth.sumP]
  | o :: L, h => by
    have ih := sumP_nonneg t ht L fun x hx => h x (by simp [hx])
    simp only [Mth.sumP, List.map_cons, List.sum_cons] at ih ⊢
    obtain ⟨a1, a2, a3, a4⟩ := ht
    obtain ⟨b1, b2, b3, b4⟩ := h o (by simp)
    have m1 := Int.mul_nonneg a3 (show 0 ≤ o.1 by omega)
    have m2 := Int.mul_nonneg b3 (show 0 ≤ t.1 by omega)
    have : 0 ≤ Mth.pr t o := by unfold Mth.pr; omega
    omega
theorem clean_tup {xs : List PV} (h : ∀ x ∈ xs, isScript x = false) : Clean (.tuple xs) := ⟨rfl, fun ys e x hx => by cases e; exact h x hx⟩
theorem nats_scr {o : List Nat} : ∀ x ∈ nats o, isScript x = false := fun x hx => by
  obtain ⟨i, _, rfl⟩ := List.mem_map.mp hx
  rfl
theorem cut_mem {α : Type} {xs : List α} {lo hi : Option Int} {x : α} (h : x ∈ cut xs lo hi) : x ∈ xs := List.mem_of_mem_drop (List.mem_of_mem_take h)
theorem cut_len {α : Type} {xs : List α} {lo hi : Option Int} : (cut xs lo hi).length ≤ xs.length := by
  unfold cut
  simp only [List.length_take, List.length_drop]
  omega
theorem seq_app {c : Cf} {b : List Stm} : ∀ {a : List Stm} {s s1 : Ev.Env}, evSs c a s = .ok .next s1 → evSs c (a ++ b) s = evSs c b s1
  | [], s, s1, h => by
    have h : RE.ok Ev.Flow.next s = .ok Ev.Flow.next s1 := h
    injection h with _ h
    subst h
    rfl
  | x :: a, s, s1, h => by
    obtain ⟨f, s2, g, w⟩ := bind_inv h
    have e : evSs c ((x :: a) ++ b) s = (evS c x s).andThen fun f => match f with | .next => evSs c (a ++ b) | .brk => pure .brk | .cont => pure .cont | .ret r => pure (.ret r) := rfl
    rw [e, g]
    cases f with
    | next => exact seq_app (b := b) w
    | brk => cases w
    | cont => cases w
    | ret r => cases w
section
variable {n : Nat} {T : List (Int × Int)} {e e1 e2 e3 : PV} {r : Int} {sv : List PV} {Lo : List (List Nat)} {s6 s7 s8 t6 t9 t12 : Slot} {g : List Nat} {j : Nat} {ys od : List PV}
theorem stA (l14 : prg.lent 14 = [0]) (l19 : prg.lent 19 = [0]) (l17 : prg.lent 17 = []) (d1 : prg.Φ (n + 6) 14 [e, .int 6] = some (.frz (.int r), [e1])) (hm : 1 + r = (T.length : Int)) (c19 : prg.Φ (n + 6) 19 [e1, .int (T.length : Int)] = some (.frz (tk T), [e2])) (c17 : prg.Φ (n + 6) 17 [.int (T.length : Int)] = some (.own (.list (Lo.map odv)), []))
    (hl1 : lcAll [7] (lcTurn (prg.cf (n + 6)) (.name 7) [] (.call 20 [.var 2, .var 7])) (Lo.map odv) [.io e2, .frz (.int (T.length : Int)), .frz (tk T), .frz (.list (Lo.map odv)), .emp, .emp, .emp, .emp, .emp, .emp, .emp, .emp, .emp, .emp, .emp, .emp, .emp, .emp] = .ok (.own (.list sv)) [.io e2, .frz (.int (T.length : Int)), .frz (tk T), .frz (.list (Lo.map odv)), .emp, .emp, .emp, .emp, .emp, .emp, .emp, .emp, .emp, .emp, .emp, .emp, .emp, .emp]) :
    evSs (prg.cf (n + 6)) [.asg (.name 1) (.bin .Add (.cint 1) (.call 14 [.peek 0, .cint 6])), .asg (.name 2) (.call 19 [.peek 0, .var 1]), .asg (.name 3) (.call 17 [.var 1]), .asg (.name 4) (.lc [("order", 7)] (.call 20 [.var 2, .var 7]) (.name 7) .val [.var 3] [])] [.io e, .emp, .emp, .emp, .emp, .emp, .emp, .emp, .emp, .emp, .emp, .emp, .emp, .emp, .emp, .emp, .emp, .emp] = .ok .next [.io e2, .frz (.int (T.length : Int)), .frz (tk T), .frz (.list (Lo.map odv)), .own (.list sv), .emp, .emp, .emp, .emp, .emp, .emp, .emp, .emp, .emp, .emp, .emp, .emp, .emp] := by trivial
theorem stB (l10 : prg.lent 10 = []) (l12 : prg.lent 12 = []) (e3u : ∀ x : Int, eqOp (.int x) (.int x) = some true) (bmn : bltOp .mn [.list sv] = some (.frz (.int (Mth.SM T)))) (c10 : prg.Φ (n + 6) 10 [tk T] = some (.frz (.int (Mth.SM T)), [])) (c12 : prg.Φ (n + 6) 12 [tk T] = some (.frz (.int (Mth.cntO T T.length : Nat)), []))
    (bct : mthOp .count (.list sv) [.int (Mth.SM T)] = some (.frz (.int (Mth.cntO T T.length : Nat)))) : evSs (prg.cf (n + 6)) [.asg (.name 5) (.blt .mn [.peek 4]), .ite (.bop .Or [.cmp .NotEq (.call 10 [.var 2]) (.peek 5), .cmp .NotEq (.call 12 [.var 2]) (.mth .count (.peek 4) [.peek 5])]) [.ret (.cbl false)] []] [.io e2, .frz (.int (T.length : Int)), .frz (tk T), .frz (.list (Lo.map odv)), .own (.list sv), .emp, .emp, .emp, .emp, .emp, .emp, .emp, .emp, .emp, .emp, .emp, .emp, .emp] = .ok .next [.io e2, .frz (.int (T.length : Int)), .frz (tk T), .frz (.list (Lo.map odv)), .own (.list sv), .frz (.int (Mth.SM T)), .emp, .emp, .emp, .emp, .emp, .emp, .emp, .emp, .emp, .emp, .emp, .emp] := by trivial
theorem stC (ien : items .enm [.list (Lo.map odv)] = some (Lo.zipIdx.map fun p => .tuple [.int (p.2 : Nat), odv p.1])) (i12 : items .rng [.int 12] = some ((List.range 12).map fun (i : Nat) => PyData.int (i : Int)))
    (f7 : forLoop (turn (prg.cf (n + 6)) (.tup [.name 6, .name 7]) [.asg (.name 8) (.lc [("i", 14), ("j", 15)] (.cint 1) (.tup [.name 14, .name 15]) .zip [.var 7, .slcL (.peek 7) (.cint 1)] [.cmp .Gt (.bin .Mult (.idx (.idx (.peek 2) (.peek 15)) (.cint 1)) (.idx (.idx (.peek 2) (.peek 14)) (.cint 0))) (.bin .Mult (.idx (.idx (.peek 2) (.peek 14)) (.cint 1)) (.idx (.idx (.peek 2) (.peek 15)) (.cint 0)))]), .ite (.cmp .NotEq (.cmp .Eq (.idx (.peek 4) (.peek 6)) (.peek 5)) (.cmp .Eq (.peek 8) (.lst []))) [.ret (.cbl false)] []]) (Lo.zipIdx.map fun p => PyData.tuple [.int (p.2 : Nat), odv p.1]) [.io e2, .frz (.int (T.length : Int)), .frz (tk T), .frz (.list (Lo.map odv)), .own (.list sv), .frz (.int (Mth.SM T)), .emp, .emp, .emp, .emp, .emp, .emp, .emp, .emp, .emp, .emp, .emp, .emp] = .ok .next [.io e2, .frz (.int (T.length : Int)), .frz (tk T), .frz (.list (Lo.map odv)), .own (.list sv), .frz (.int (Mth.SM T)), s6, s7, s8, .emp, .emp, .emp, .emp, .emp, .emp, .emp, .emp, .emp])
    (f8 : forLoop (turn (prg.cf (n + 6)) (.name 9) [.asg (.name 6) (.call 14 [.peek 0, .blt .len [.peek 3]]), .ite (.bop .Or [.cmp .NotEq (.call 9 [.var 2, .idx (.peek 3) (.peek 6)]) (.idx (.peek 4) (.peek 6)), .cmp .NotEq (.call 11 [.var 2, .idx (.peek 3) (.peek 6)]) (.cmp .Eq (.idx (.peek 4) (.peek 6)) (.peek 5))]) [.ret (.cbl false)] []]) ((List.range 12).map fun (i : Nat) => PyData.int (i : Int)) [.io e2, .frz (.int (T.length : Int)), .frz (tk T), .frz (.list (Lo.map odv)), .own (.list sv), .frz (.int (Mth.SM T)), s6, s7, s8, .emp, .emp, .emp, .emp, .emp, .emp, .emp, .emp, .emp] = .ok .next [.io e3, .frz (.int (T.length : Int)), .frz (tk T), .frz (.list (Lo.map odv)), .own (.list sv), .frz (.int (Mth.SM T)), t6, s7, s8, t9, .emp, .emp, .emp, .emp, .emp, .emp, .emp, .emp]) : evSs (prg.cf (n + 6)) [.loop (.tup [.name 6, .name 7]) .enm [.var 3] [.asg (.name 8) (.lc [("i", 14), ("j", 15)] (.cint 1) (.tup [.name 14, .name 15]) .zip [.var 7, .slcL (.peek 7) (.cint 1)] [.cmp .Gt (.bin .Mult (.idx (.idx (.peek 2) (.peek 15)) (.cint 1)) (.idx (.idx (.peek 2) (.peek 14)) (.cint 0))) (.bin .Mult (.idx (.idx (.peek 2) (.peek 14)) (.cint 1)) (.idx (.idx (.peek 2) (.peek 15)) (.cint 0)))]), .ite (.cmp .NotEq (.cmp .Eq (.idx (.peek 4) (.peek 6)) (.peek 5)) (.cmp .Eq (.peek 8) (.lst []))) [.ret (.cbl false)] []], .loop (.name 9) .rng [.cint 12] [.asg (.name 6) (.call 14 [.peek 0, .blt .len [.peek 3]]), .ite (.bop .Or [.cmp .NotEq (.call 9 [.var 2, .idx (.peek 3) (.peek 6)]) (.idx (.peek 4) (.peek 6)), .cmp .NotEq (.call 11 [.var 2, .idx (.peek 3) (.peek 6)]) (.cmp .Eq (.idx (.peek 4) (.peek 6)) (.peek 5))]) [.ret (.cbl false)] []]] [.io e2, .frz (.int (T.length : Int)), .frz (tk T), .frz (.list (Lo.map odv)), .own (.list sv), .frz (.int (Mth.SM T)), .emp, .emp, .emp, .emp, .emp, .emp, .emp, .emp, .emp, .emp, .emp, .emp] = .ok .next [.io e3, .frz (.int (T.length : Int)), .frz (tk T), .frz (.list (Lo.map odv)), .own (.list sv), .frz (.int (Mth.SM T)), t6, s7, s8, t9, .emp, .emp, .emp, .emp, .emp, .emp, .emp, .emp] := by trivial
theorem stD (l11 : prg.lent 11 = []) (bb : ∀ b : Bool, (b == b) = true) (bix : mthOp .index (.list sv) [.int (Mth.SM T)] = some (.frz (.int (j : Nat)))) (hixg : idxOp (.list (Lo.map odv)) (.int (j : Int)) = some (odv g)) (c11 : prg.Φ (n + 6) 11 [tk T, odv g] = some (.frz (.bool true), [])) : evSs (prg.cf (n + 6)) [.asg (.name 10) (.idx (.peek 3) (.mth .index (.peek 4) [.peek 5])), .ite (.cmp .IsNot (.call 11 [.var 2, .var 10]) (.cbl true)) [.ret (.cbl false)] []] [.io e3, .frz (.int (T.length : Int)), .frz (tk T), .frz (.list (Lo.map odv)), .own (.list sv), .frz (.int (Mth.SM T)), t6, s7, s8, t9, .emp, .emp, .emp, .emp, .emp, .emp, .emp, .emp] = .ok .next [.io e3, .frz (.int (T.length : Int)), .frz (tk T), .frz (.list (Lo.map odv)), .own (.list sv), .frz (.int (Mth.SM T)), t6, s7, s8, t9, .frz (odv g), .emp, .emp, .emp, .emp, .emp, .emp, .emp] := by trivial
theorem stE (g1 : bltOp .list [odv g] = some (.own (.list (nats g)))) (g2 : slcOp (some 1) none (odv g) = some (.frz (.tuple ((nats g).drop 1)))) (g3 : binOp .Add (odv g) (.tuple [.int 0]) = some (.frz (.tuple (nats g ++ [.int 0])))) (hyd : slcOp none (some (-1)) (odv g) = some (.frz (.tuple ys))) (g4 : ∀ z, binOp .Add (.tuple ys) (.tuple [z]) = some (.frz (.tuple (ys ++ [z]))))
    (g5 : binOp .Add (.list [.list (nats g), .tuple ((nats g).drop 1), .tuple (nats g ++ [.int 0]), .tuple [], .none, .int 0, .tuple (ys ++ [.bool true]), .tuple (ys ++ [.int (T.length : Int)])]) (.list [.tuple (ys ++ [.none]), .dict []]) = some (.own (.list od))) : evSs (prg.cf (n + 6)) [.asg (.name 11) (.lst [.blt .list [.peek 10], .slcL (.peek 10) (.cint 1), .bin .Add (.peek 10) (.tup [.cint 0]), .tup [], .cnon, .cint 0, .bin .Add (.slcH (.peek 10) (.neg (.cint 1))) (.tup [.cbl true]), .bin .Add (.slcH (.peek 10) (.neg (.cint 1))) (.tup [.var 1])]), .asg (.name 11) (.bin .Add (.peek 11) (.lst [.bin .Add (.slcH (.peek 10) (.neg (.cint 1))) (.tup [.cnon]), .dct0]))] [.io e3, .frz (.int (T.length : Int)), .frz (tk T), .frz (.list (Lo.map odv)), .own (.list sv), .frz (.int (Mth.SM T)), t6, s7, s8, t9, .frz (odv g), .emp, .emp, .emp, .emp, .emp, .emp, .emp] = .ok .next [.io e3, .frz (.int (T.length : Int)), .frz (tk T), .frz (.list (Lo.map odv)), .own (.list sv), .frz (.int (Mth.SM T)), t6, s7, s8, t9, .frz (odv g), .own (.list od), .emp, .emp, .emp, .emp, .emp, .emp] := by trivial
theorem stF (f11 : forLoop (turn (prg.cf (n + 6)) (.name 12) [.ite (.cmp .NotEq (.blt .repr [.call 11 [.var 2, .var 12]]) (.blt .repr [.call 22 [.var 2, .var 12, .var 5]])) [.ret (.cbl false)] []]) od [.io e3, .frz (.int (T.length : Int)), .frz (tk T), .frz (.list (Lo.map odv)), .own (.list sv), .frz (.int (Mth.SM T)), t6, s7, s8, t9, .frz (odv g), .frz (.list od), .emp, .emp, .emp, .emp, .emp, .emp] = .ok .next [.io e3, .frz (.int (T.length : Int)), .frz (tk T), .frz (.list (Lo.map odv)), .own (.list sv), .frz (.int (Mth.SM T)), t6, s7, s8, t9, .frz (odv g), .frz (.list od), t12, .emp, .emp, .emp, .emp, .emp]) : evSs (prg.cf (n + 6)) [.loop (.name 12) .val [.var 11] [.ite (.cmp .NotEq (.blt .repr [.call 11 [.var 2, .var 12]]) (.blt .repr [.call 22 [.var 2, .var 12, .var 5]])) [.ret (.cbl false)] []]] [.io e3, .frz (.int (T.length : Int)), .frz (tk T), .frz (.list (Lo.map odv)), .own (.list sv), .frz (.int (Mth.SM T)), t6, s7, s8, t9, .frz (odv g), .own (.list od), .emp, .emp, .emp, .emp, .emp, .emp] = .ok .next [.io e3, .frz (.int (T.length : Int)), .frz (tk T), .frz (.list (Lo.map odv)), .own (.list sv), .frz (.int (Mth.SM T)), t6, s7, s8, t9, .frz (odv g), .frz (.list od), t12, .emp, .emp, .emp, .emp, .emp] := by trivial
theorem stG1 (l10 : prg.lent 10 = []) {t0 : Int × Int} {T1 : List (Int × Int)} (hm2 : (1 : Int) < (T.length : Int)) (hx0 : idxOp (tk T) (.int 0) = some (tkv t0)) (x0 : idxOp (tkv t0) (.int 0) = some (.int t0.1)) (x1 : idxOp (tkv t0) (.int 1) = some (.int t0.2)) (ml : mulOk t0.1 t0.2 = true) (hsd : slcOp (some 1) none (tk T) = some (.frz (tk T1))) (c10b : prg.Φ (n + 6) 10 [tk T1] = some (.frz (.int (Mth.SM T1)), []))
    (hlt : ¬ (Mth.SM T < Mth.SM T1 + t0.1 * t0.2)) : evSs (prg.cf (n + 6)) [.ite (.bop .And [.cmp .Gt (.peek 1) (.cint 1), .cmp .Gt (.bin .Add (.call 10 [.slcL (.peek 2) (.cint 1)]) (.bin .Mult (.idx (.idx (.peek 2) (.cint 0)) (.cint 0)) (.idx (.idx (.peek 2) (.cint 0)) (.cint 1)))) (.peek 5)]) [.ret (.cbl false)] []] [.io e3, .frz (.int (T.length : Int)), .frz (tk T), .frz (.list (Lo.map odv)), .own (.list sv), .frz (.int (Mth.SM T)), t6, s7, s8, t9, .frz (odv g), .frz (.list od), t12, .emp, .emp, .emp, .emp, .emp] = .ok .next [.io e3, .frz (.int (T.length : Int)), .frz (tk T), .frz (.list (Lo.map odv)), .own (.list sv), .frz (.int (Mth.SM T)), t6, s7, s8, t9, .frz (odv g), .frz (.list od), t12, .emp, .emp, .emp, .emp, .emp] := by trivial
theorem stG2 (hm2 : ¬ (1 : Int) < (T.length : Int)) : evSs (prg.cf (n + 6)) [.ite (.bop .And [.cmp .Gt (.peek 1) (.cint 1), .cmp .Gt (.bin .Add (.call 10 [.slcL (.peek 2) (.cint 1)]) (.bin .Mult (.idx (.idx (.peek 2) (.cint 0)) (.cint 0)) (.idx (.idx (.peek 2) (.cint 0)) (.cint 1)))) (.peek 5)]) [.ret (.cbl false)] []] [.io e3, .frz (.int (T.length : Int)), .frz (tk T), .frz (.list (Lo.map odv)), .own (.list sv), .frz (.int (Mth.SM T)), t6, s7, s8, t9, .frz (odv g), .frz (.list od), t12, .emp, .emp, .emp, .emp, .emp] = .ok .next [.io e3, .frz (.int (T.length : Int)), .frz (tk T), .frz (.list (Lo.map odv)), .own (.list sv), .frz (.int (Mth.SM T)), t6, s7, s8, t9, .frz (odv g), .frz (.list od), t12, .emp, .emp, .emp, .emp, .emp] := by trivial
theorem stH {F : List (Int × Int)} (l10 : prg.lent 10 = []) (ivT : items .val [tk T] = some (T.map tkv)) (mul2 : ∀ j, mulOk 2 j = true)
    (hl2 : lcAll [16, 17] (lcTurn (prg.cf (n + 6)) (.tup [.name 16, .name 17]) [.cmp .Lt (.bin .Mult (.cint 2) (.peek 16)) (.cint 100)] (.tup [.bin .Mult (.cint 2) (.peek 16), .var 17])) (T.map tkv) [.io e3, .frz (.int (T.length : Int)), .frz (tk T), .frz (.list (Lo.map odv)), .own (.list sv), .frz (.int (Mth.SM T)), t6, s7, s8, t9, .frz (odv g), .frz (.list od), t12, .emp, .emp, .emp, .emp, .emp] = .ok (.own (.list ((F.map dbl).map tkv))) [.io e3, .frz (.int (T.length : Int)), .frz (tk T), .frz (.list (Lo.map odv)), .own (.list sv), .frz (.int (Mth.SM T)), t6, s7, s8, t9, .frz (odv g), .frz (.list od), t12, .emp, .emp, .emp, .emp, .emp])
    (bt : bltOp .tuple [.list ((F.map dbl).map tkv)] = some (.frz (tk (F.map dbl)))) (hq2 : bltOp .len [tk (F.map dbl)] = some (.frz (.int (F.length : Nat)))) (e3u : ∀ x : Int, eqOp (.int x) (.int x) = some true)
    (hP : ¬ (F.length : Int) < (T.length : Int) → prg.Φ (n + 6) 10 [tk (F.map dbl)] = some (.frz (.int (2 * Mth.SM T)), [])) :
    evSs (prg.cf (n + 6)) [.asg (.name 13) (.blt .tuple [.lc [("length", 16), ("weight", 17)] (.tup [.bin .Mult (.cint 2) (.peek 16), .var 17]) (.tup [.name 16, .name 17]) .val [.var 2] [.cmp .Lt (.bin .Mult (.cint 2) (.peek 16)) (.cint 100)]]), .ret (.bop .Or [.cmp .Lt (.blt .len [.peek 13]) (.peek 1), .cmp .Eq (.call 10 [.var 13]) (.bin .Mult (.cint 2) (.peek 5))])] [.io e3, .frz (.int (T.length : Int)), .frz (tk T), .frz (.list (Lo.map odv)), .own (.list sv), .frz (.int (Mth.SM T)), t6, s7, s8, t9, .frz (odv g), .frz (.list od), t12, .emp, .emp, .emp, .emp, .emp] = .ok (.ret (.frz (.bool true))) [.io e3, .frz (.int (T.length : Int)), .frz (tk T), .frz (.list (Lo.map odv)), .own (.list sv), .frz (.int (Mth.SM T)), t6, s7, s8, t9, .frz (odv g), .frz (.list od), t12, .frz (tk (F.map dbl)), .emp, .emp, .emp, .emp] := by
  by_cases hF : (F.length : Int) < (T.length : Int)
  · clear hP
    trivial
  · have hP := hP hF
    trivial
end
theorem phi21 (n : Nat) {e : PV} (he : Ew e) : ∃ e', Ew e' ∧ prg.Φ (n + 7) 21 [e] = some (.frz (.bool true), [e']) := by
  obtain ⟨r, e1, he1, r0, r1, d1⟩ := drip (n + 5) e 6 he (by omega) (by omega)
  obtain ⟨m, hm⟩ : ∃ m : Nat, 1 + r = (m : Int) := ⟨(1 + r).toNat, by omega⟩
  have hm1 : 1 ≤ m := by omega
  have hm6 : m ≤ 6 := by omega
  obtain ⟨T, e2, he2, hT, hJ, c19⟩ := weighed (n + 3) he1 (m := m) (by omega)
  subst hT
  have hV : Vd T := ⟨fun h => by rw [h] at hm1; simp at hm1, by omega, hJ⟩
  have c17 := orders (n + 5) hm6
  generalize hLo : Mth.ords T.length = Lo at c17
  have hperm : ∀ o ∈ Lo, o.Perm (List.range T.length) := fun o ho => Mth.mem_ords.mp (hLo ▸ ho)
  have hlen : Lo.length ≤ 46656 := by
    rw [← hLo]
    exact Nat.le_trans (Mth.length_parts_le T.length) (Nat.le_trans (Nat.pow_le_pow_left hm6 _) (Nat.pow_le_pow_right (by omega) hm6))
  obtain ⟨gb, hgp, hgc⟩ := Mth.least_exists (pos_of hJ)
  have hgm : gb ∈ Lo := hLo ▸ Mth.mem_ords.mpr hgp
  have hpos : 0 < Lo.length := List.length_pos_of_mem hgm
  let cost : List Nat → Int := fun o => Mth.C (Mth.row T o)
  have hmin : (Lo.map cost).min? = some (Mth.SM T) := List.min?_eq_some_iff.mpr ⟨List.mem_map.mpr ⟨gb, hgm, hgc⟩, fun b hb => by
    obtain ⟨o, ho, rfl⟩ := List.mem_map.mp hb
    exact (Mth.cost_iff (hperm o ho)).1⟩
  have hcnt : (Lo.map cost).count (Mth.SM T) = Mth.cntO T T.length := by
    rw [count_map, ← Mth.count_good (pos_of hJ), hLo]
    congr 1
    refine List.filter_congr fun o ho => ?_
    unfold Mth.good
    rw [decide_eq_decide]
    exact (Mth.cost_iff (hperm o ho)).2
  have bmn := b_mn (Lo.map cost) hmin
  have bct := m_count (Lo.map cost) (Mth.SM T)
  rw [hcnt] at bct
  have hsv : ∀ (k : Nat) (o : List Nat), Lo[k]? = some o → ((Lo.map cost).map PyData.int)[k]? = some (PyData.int (Mth.C (Mth.row T o))) := fun k o h => by simp [h, cost]
  -- the first of the least
  obtain ⟨j, hj⟩ : ∃ j, (Lo.map cost).findIdx? (fun z => decide (z = Mth.SM T)) = some j := by
    have : ((Lo.map cost).findIdx? (fun z => decide (z = Mth.SM T))).isSome = true := by
      rw [List.findIdx?_isSome, List.any_eq_true]
      exact ⟨_, List.mem_map.mpr ⟨gb, hgm, hgc⟩, by simp⟩
    exact Option.isSome_iff_exists.mp this
  have bix := m_index (Lo.map cost) (Mth.SM T) hj
  obtain ⟨hj1, hj2, _⟩ := List.findIdx?_eq_some_iff_getElem.mp hj
  have hj1 : j < Lo.length := by simpa using hj1
  have hgj : Lo[j]? = some Lo[j] := List.getElem?_eq_getElem hj1
  have hcj : Mth.C (Mth.row T Lo[j]) = Mth.SM T := by simpa [cost] using hj2
  have hpj := hperm Lo[j] (List.getElem_mem _)
  generalize Lo[j] = g at hgj hcj hpj
  have hixg : idxOp (.list (Lo.map odv)) (.int (j : Int)) = some (odv g) := i_lN (by rw [List.getElem?_map, hgj]; rfl)
  have hgl : g.length ≤ 6 := by rw [hpj.length_eq]; simpa using hm6
  have c10 := phi10 (n + 2) hV
  have c12 := phi12 (n + 2) hV
  have c11 := phi11 (n + 2) hV (clean_odv g)
  rw [rle_good hpj, decide_eq_true hcj] at c11
  generalize hsvv : (Lo.map cost).map PyData.int = sv at *
  -- the loops
  obtain ⟨s6, s7, s8, i6, i7, i8, f7⟩ := loop7 (n := n + 6) (T := T) (mm := (T.length : Int)) (e := e2) (sv := sv) hJ hperm hsv
  obtain ⟨e3, t6, t9, he3, j6, j9, f8⟩ := loop8 (n := n) (mm := (T.length : Int)) (e := e2) (sv := sv) hV hpos hlen hperm hsv he2 (s7 := s7) (s8 := s8) i6
  let ys := cut (nats g) none (some (-1))
  have hys : ∀ x ∈ ys, isScript x = false := fun x hx => nats_scr x (cut_mem hx)
  have hyl : ys.length ≤ 6 := Nat.le_trans cut_len (by rw [nats_len]; exact hgl)
  have hyd : slcOp none (some (-1)) (odv g) = some (.frz (.tuple ys)) := rfl
  let od : List PV := [.list (nats g), .tuple ((nats g).drop 1), .tuple (nats g ++ [.int 0]), .tuple [], .none, .int 0, .tuple (ys ++ [.bool true]), .tuple (ys ++ [.int (T.length : Int)]), .tuple (ys ++ [.none]), .dict []]
  have hod : ∀ v ∈ od, Clean v := by
    have app : ∀ (zs : List PV) (z : PV), (∀ x ∈ zs, isScript x = false) → isScript z = false → Clean (.tuple (zs ++ [z])) := fun zs z h1 h2 => clean_tup fun x hx => by
      rcases List.mem_append.mp hx with hx | hx
      · exact h1 x hx
      · simp at hx; rw [hx]; exact h2
    intro v hv
    simp only [od, List.mem_cons, List.not_mem_nil, or_false] at hv
    rcases hv with rfl | rfl | rfl | rfl | rfl | rfl | rfl | rfl | rfl | rfl
    · exact ⟨rfl, fun xs h => by cases h⟩
    · exact clean_tup fun x hx => nats_scr x (List.mem_of_mem_drop hx)
    · exact app _ _ nats_scr rfl
    · exact clean_tup fun x hx => by cases hx
    · exact ⟨rfl, fun xs h => by cases h⟩
    · exact ⟨rfl, fun xs h => by cases h⟩
    · exact app _ _ hys rfl
    · exact app _ _ hys rfl
    · exact app _ _ hys rfl
    · exact ⟨rfl, fun xs h => by cases h⟩
  obtain ⟨t12, j12, f11⟩ := loop11 (n := n) (T := T) (mm := (T.length : Int)) (e := e3) (sv := sv) (Lo := Lo) hV hod (s6 := t6) (s7 := s7) (s8 := s8) (s9 := t9) (s10 := .frz (odv g))
  have l14 : prg.lent 14 = [0] := rfl
  have l19 : prg.lent 19 = [0] := rfl
  have l17 : prg.lent 17 = [] := rfl
  have l20 : prg.lent 20 = [] := rfl
  have l10 : prg.lent 10 = [] := rfl
  have l12 : prg.lent 12 = [] := rfl
  have l11 : prg.lent 11 = [] := rfl
  -- the sums
  have hl1 : lcAll [7] (lcTurn (prg.cf (n + 6)) (.name 7) [] (.call 20 [.var 2, .var 7])) (Lo.map odv) [.io e2, .frz (.int (T.length : Int)), .frz (tk T), .frz (.list (Lo.map odv)), .emp, .emp, .emp, .emp, .emp, .emp, .emp, .emp, .emp, .emp, .emp, .emp, .emp, .emp] = .ok (.own (.list sv)) [.io e2, .frz (.int (T.length : Int)), .frz (tk T), .frz (.list (Lo.map odv)), .emp, .emp, .emp, .emp, .emp, .emp, .emp, .emp, .emp, .emp, .emp, .emp, .emp, .emp] := by
    rw [← hsvv, List.map_map]
    refine lc_mapB (vs := [7]) (s0 := [.io e2, .frz (.int (T.length : Int)), .frz (tk T), .frz (.list (Lo.map odv)), .emp, .emp, .emp, .emp, .emp, .emp, .emp, .emp, .emp, .emp, .emp, .emp, .emp, .emp]) (h := [.io e2, .frz (.int (T.length : Int)), .frz (tk T), .frz (.list (Lo.map odv)), .emp, .emp, .emp, .emp, .emp, .emp, .emp, .emp, .emp, .emp, .emp, .emp, .emp, .emp]) odv (fun o => .int (cost o)) rfl fun o ho => ?_
    refine ⟨[.io e2, .frz (.int (T.length : Int)), .frz (tk T), .frz (.list (Lo.map odv)), .emp, .emp, .emp, .frz (odv o), .emp, .emp, .emp, .emp, .emp, .emp, .emp, .emp, .emp, .emp], ?_, rfl⟩
    have c20 := phi20 (n + 5) hJ (perm_lt (hperm o ho))
    clear hV hJ hperm hsv hcj hgj hys hod hj2 hj1 hj hmin hcnt hm6 hlen bix bct bmn f7 f8 f11
    trivial
    rfl
  have bb := bool_eq
  have hlenT2 : ∀ T2 : List (Int × Int), bltOp .len [tk T2] = some (.frz (.int (T2.length : Nat))) := lenT
  -- twice
  let q : Int × Int → Bool := fun t => decide (2 * t.1 < 100)
  have hl2 : lcAll [16, 17] (lcTurn (prg.cf (n + 6)) (.tup [.name 16, .name 17]) [.cmp .Lt (.bin .Mult (.cint 2) (.peek 16)) (.cint 100)] (.tup [.bin .Mult (.cint 2) (.peek 16), .var 17])) (T.map tkv) [.io e3, .frz (.int (T.length : Int)), .frz (tk T), .frz (.list (Lo.map odv)), .own (.list sv), .frz (.int (Mth.SM T)), t6, s7, s8, t9, .frz (odv g), .frz (.list od), t12, .emp, .emp, .emp, .emp, .emp] = .ok (.own (.list (((T.filter q).map dbl).map tkv))) [.io e3, .frz (.int (T.length : Int)), .frz (tk T), .frz (.list (Lo.map odv)), .own (.list sv), .frz (.int (Mth.SM T)), t6, s7, s8, t9, .frz (odv g), .frz (.list od), t12, .emp, .emp, .emp, .emp, .emp] := by
    rw [List.map_map]
    refine lc_filB (vs := [16, 17]) (s0 := [.io e3, .frz (.int (T.length : Int)), .frz (tk T), .frz (.list (Lo.map odv)), .own (.list sv), .frz (.int (Mth.SM T)), t6, s7, s8, t9, .frz (odv g), .frz (.list od), t12, .emp, .emp, .emp, .emp, .emp]) (h := [.io e3, .frz (.int (T.length : Int)), .frz (tk T), .frz (.list (Lo.map odv)), .own (.list sv), .frz (.int (Mth.SM T)), t6, s7, s8, t9, .frz (odv g), .frz (.list od), t12, .emp, .emp, .emp, .emp, .emp]) tkv q (fun t => tkv (dbl t)) rfl fun t ht => ?_
    obtain ⟨t1, t2⟩ := t
    refine ⟨[.io e3, .frz (.int (T.length : Int)), .frz (tk T), .frz (.list (Lo.map odv)), .own (.list sv), .frz (.int (Mth.SM T)), t6, s7, s8, t9, .frz (odv g), .frz (.list od), t12, .emp, .emp, .emp, .frz (.int t1), .frz (.int t2)], ?_, rfl⟩
    have m1 : ∀ j, mulOk 2 j = true := fun j => mul_l (by decide)
    show lcTurn _ _ _ _ (.tuple [.int t1, .int t2]) _ = .ok (if decide (2 * t1 < 100) = true then some (.tuple [.int (2 * t1), .int t2]) else none) _
    clear hV hJ hperm hsv hcj hgj hys hod hj2 hj1 hj hmin hcnt hm6 hlen bix bct bmn f7 f8 f11 hl1 ht
    by_cases hc : 2 * t1 < 100
    · trivial
    · trivial
  have e3u : ∀ x : Int, eqOp (.int x) (.int x) = some true := fun x => by rw [e_int]; simp
  have ien : items .enm [.list (Lo.map odv)] = some (Lo.zipIdx.map fun p => .tuple [.int (p.2 : Nat), odv p.1]) := by
    rw [it_enmL, zipIdx_map]
  have i12 := rng_map (m := 12) (n := 12) rfl (by decide)
  have g1 : bltOp .list [odv g] = some (.own (.list (nats g))) := rfl
  have g2 : slcOp (some 1) none (odv g) = some (.frz (.tuple ((nats g).drop 1))) := l_dropT (k := 1) rfl
  have g3 : binOp .Add (odv g) (.tuple [.int 0]) = some (.frz (.tuple (nats g ++ [.int 0]))) := o_catT (by rw [nats_len]; simp; unfold lim; omega)
  have g4 : ∀ z, binOp .Add (.tuple ys) (.tuple [z]) = some (.frz (.tuple (ys ++ [z]))) := fun z => o_catT (by simp; unfold lim; omega)
  have g5 : binOp .Add (.list [.list (nats g), .tuple ((nats g).drop 1), .tuple (nats g ++ [.int 0]), .tuple [], .none, .int 0, .tuple (ys ++ [.bool true]), .tuple (ys ++ [.int (T.length : Int)])]) (.list [.tuple (ys ++ [.none]), .dict []]) = some (.own (.list od)) := o_catL (by show 8 + 2 ≤ lim; decide)
  have ivT : items .val [tk T] = some (T.map tkv) := rfl
  have btp : ∀ L : List (Int × Int), bltOp .tuple [.list (L.map tkv)] = some (.frz (tk L)) := fun L => rfl
  have mul2 : ∀ j, mulOk 2 j = true := fun j => mul_l (by decide)
  have T2V : (T.filter q).length = T.length → prg.Φ (n + 6) 10 [tk ((T.filter q).map dbl)] = some (.frz (.int (2 * Mth.SM T)), []) := fun hl => by
    have hf : T.filter q = T := List.filter_sublist.eq_of_length hl
    have hq : ∀ t ∈ T, 2 * t.1 < 100 := fun t ht => by
      rw [← hf] at ht
      simpa [q] using (List.mem_filter.mp ht).2
    rw [hf, ← SM_dbl]
    refine phi10 (n + 2) ⟨by simpa using hV.1, by simpa using hV.2.1, fun t ht => ?_⟩
    obtain ⟨u, hu, rfl⟩ := List.mem_map.mp ht
    obtain ⟨u1, u2, u3, u4⟩ := hJ u hu
    have := hq u hu
    refine ⟨?_, ?_, u3, u4⟩ <;> (simp only [dbl]; omega)
  have T2L : (T.filter q).length ≤ T.length := List.length_filter_le _ _
  refine ⟨e3, he3, ?_⟩
  rw [phi_run (d := d21) rfl]
  have hq2 : bltOp .len [tk ((T.filter q).map dbl)] = some (.frz (.int ((T.filter q).length : Nat))) := by rw [lenT, List.length_map]
  refine run_frz rfl (by decide) (s := [.io e3, .frz (.int (T.length : Int)), .frz (tk T), .frz (.list (Lo.map odv)), .own (.list sv), .frz (.int (Mth.SM T)), t6, s7, s8, t9, .frz (odv g), .frz (.list od), t12, .frz (tk ((T.filter q).map dbl)), .emp, .emp, .emp, .emp]) ?_ rfl
  show evSs (prg.cf (n + 6)) ([.asg (.name 1) (.bin .Add (.cint 1) (.call 14 [.peek 0, .cint 6])), .asg (.name 2) (.call 19 [.peek 0, .var 1]), .asg (.name 3) (.call 17 [.var 1]), .asg (.name 4) (.lc [("order", 7)] (.call 20 [.var 2, .var 7]) (.name 7) .val [.var 3] [])] ++ ([.asg (.name 5) (.blt .mn [.peek 4]), .ite (.bop .Or [.cmp .NotEq (.call 10 [.var 2]) (.peek 5), .cmp .NotEq (.call 12 [.var 2]) (.mth .count (.peek 4) [.peek 5])]) [.ret (.cbl false)] []] ++ ([.loop (.tup [.name 6, .name 7]) .enm [.var 3] [.asg (.name 8) (.lc [("i", 14), ("j", 15)] (.cint 1) (.tup [.name 14, .name 15]) .zip [.var 7, .slcL (.peek 7) (.cint 1)] [.cmp .Gt (.bin .Mult (.idx (.idx (.peek 2) (.peek 15)) (.cint 1)) (.idx (.idx (.peek 2) (.peek 14)) (.cint 0))) (.bin .Mult (.idx (.idx (.peek 2) (.peek 14)) (.cint 1)) (.idx (.idx (.peek 2) (.peek 15)) (.cint 0)))]), .ite (.cmp .NotEq (.cmp .Eq (.idx (.peek 4) (.peek 6)) (.peek 5)) (.cmp .Eq (.peek 8) (.lst []))) [.ret (.cbl false)] []], .loop (.name 9) .rng [.cint 12] [.asg (.name 6) (.call 14 [.peek 0, .blt .len [.peek 3]]), .ite (.bop .Or [.cmp .NotEq (.call 9 [.var 2, .idx (.peek 3) (.peek 6)]) (.idx (.peek 4) (.peek 6)), .cmp .NotEq (.call 11 [.var 2, .idx (.peek 3) (.peek 6)]) (.cmp .Eq (.idx (.peek 4) (.peek 6)) (.peek 5))]) [.ret (.cbl false)] []]] ++ ([.asg (.name 10) (.idx (.peek 3) (.mth .index (.peek 4) [.peek 5])), .ite (.cmp .IsNot (.call 11 [.var 2, .var 10]) (.cbl true)) [.ret (.cbl false)] []] ++ ([.asg (.name 11) (.lst [.blt .list [.peek 10], .slcL (.peek 10) (.cint 1), .bin .Add (.peek 10) (.tup [.cint 0]), .tup [], .cnon, .cint 0, .bin .Add (.slcH (.peek 10) (.neg (.cint 1))) (.tup [.cbl true]), .bin .Add (.slcH (.peek 10) (.neg (.cint 1))) (.tup [.var 1])]), .asg (.name 11) (.bin .Add (.peek 11) (.lst [.bin .Add (.slcH (.peek 10) (.neg (.cint 1))) (.tup [.cnon]), .dct0]))] ++ ([.loop (.name 12) .val [.var 11] [.ite (.cmp .NotEq (.blt .repr [.call 11 [.var 2, .var 12]]) (.blt .repr [.call 22 [.var 2, .var 12, .var 5]])) [.ret (.cbl false)] []]] ++ ([.ite (.bop .And [.cmp .Gt (.peek 1) (.cint 1), .cmp .Gt (.bin .Add (.call 10 [.slcL (.peek 2) (.cint 1)]) (.bin .Mult (.idx (.idx (.peek 2) (.cint 0)) (.cint 0)) (.idx (.idx (.peek 2) (.cint 0)) (.cint 1)))) (.peek 5)]) [.ret (.cbl false)] []] ++ [.asg (.name 13) (.blt .tuple [.lc [("length", 16), ("weight", 17)] (.tup [.bin .Mult (.cint 2) (.peek 16), .var 17]) (.tup [.name 16, .name 17]) .val [.var 2] [.cmp .Lt (.bin .Mult (.cint 2) (.peek 16)) (.cint 100)]]), .ret (.bop .Or [.cmp .Lt (.blt .len [.peek 13]) (.peek 1), .cmp .Eq (.call 10 [.var 13]) (.bin .Mult (.cint 2) (.peek 5))])]))))))) [.io e, .emp, .emp, .emp, .emp, .emp, .emp, .emp, .emp, .emp, .emp, .emp, .emp, .emp, .emp, .emp, .emp, .emp] = _
  rw [seq_app (stA l14 l19 l17 d1 hm c19 c17 hl1), seq_app (stB l10 l12 e3u bmn c10 c12 bct), seq_app (stC ien i12 f7 f8), seq_app (stD l11 bb bix hixg c11), seq_app (stE g1 g2 g3 hyd g4 g5), seq_app (stF f11)]
  have fin := stH (n := n) (T := T) (e3 := e3) (sv := sv) (Lo := Lo) (s7 := s7) (s8 := s8) (t6 := t6) (t9 := t9) (t12 := t12) (g := g) (od := od) (F := T.filter q) l10 ivT mul2 hl2 (btp _) hq2 e3u fun h => T2V (by omega)
  by_cases hm2 : (1 : Int) < (T.length : Int)
  · have hx0 : idxOp (tk T) (.int 0) = some (tkv (Mth.at_ T 0)) := idx_tk (i := 0) (by omega)
    have hsd : slcOp (some 1) none (tk T) = some (.frz (tk (T.drop 1))) := by
      have := l_dropT (xs := T.map tkv) (v := 1) (k := 1) rfl
      rw [← List.map_drop] at this
      exact this
    have c10b := phi10 (n + 2) (T := T.drop 1) ⟨fun h => by have := congrArg List.length h; simp at this; omega, by simp; omega, fun t ht => hJ t (List.mem_of_mem_drop ht)⟩
    have hlt : ¬ (Mth.SM T < Mth.SM (T.drop 1) + (Mth.at_ T 0).1 * (Mth.at_ T 0).2) := by
      cases hTT : T with
      | nil => rw [hTT] at hm2; simp at hm2
      | cons t T' =>
        have h1 := sumP_nonneg t (hJ t (by rw [hTT]; simp)) T' fun o ho => hJ o (by rw [hTT]; simp [ho])
        simp only [List.drop_succ_cons, List.drop_zero, Mth.SM, Mth.at_, List.getD_cons_zero]
        omega
    rw [seq_app (stG1 l10 hm2 hx0 (idx_0 _) (idx_1 _) (mul_l (at_small hJ 0).1) hsd c10b hlt)]
    exact fin
  · rw [seq_app (stG2 hm2)]
    exact fin
theorem vd_of {T : List (Int × Int)} (h : (decide (T ≠ []) && decide (T.length ≤ 9) && T.all fun t => decide (1 ≤ t.1) && decide (t.1 ≤ 99) && decide (0 ≤ t.2) && decide (t.2 ≤ 99)) = true) : Vd T := by
  simp only [Bool.and_eq_true, decide_eq_true_eq, List.all_eq_true] at h
  exact ⟨h.1.1, h.1.2, fun t ht => ⟨(h.2 t ht).1.1.1, (h.2 t ht).1.1.2, (h.2 t ht).1.2, (h.2 t ht).2⟩⟩
theorem law_true (ns : List Int) (_ : ns.length ≤ 63) : prg.Φ 12 23 [scriptV ns] = some (.frz (.bool true), []) := by
  have l21 : prg.lent 21 = [0] := rfl
  have l13 : prg.lent 13 = [] := rfl
  have l9 : prg.lent 9 = [] := rfl
  have l10 : prg.lent 10 = [] := rfl
  have l11 : prg.lent 11 = [] := rfl
  have l12 : prg.lent 12 = [] := rfl
  have i4 := rng_map (m := 4) (n := 4) rfl (by decide)
  -- four draws
  have inner : ∀ (e : PV) (s1 s3 : Slot), Ew e → isIo s3 = false → ∃ e' t3, Ew e' ∧ isIo t3 = false ∧ forLoop (turn (prg.cf 11) (.name 3) [.ite (.not (.call 21 [.peek 2])) [.ret (.cbl false)] []]) ((List.range 4).map fun (i : Nat) => PyData.int (i : Int)) [.frz (scriptV ns), s1, .own e, s3, .emp, .emp] = .ok .next [.frz (scriptV ns), s1, .own e', t3, .emp, .emp] := fun e s1 s3 he i3 => by
    have H := for_inv (step := turn (prg.cf 11) (.name 3) [.ite (.not (.call 21 [.peek 2])) [.ret (.cbl false)] []]) (fun k s => ∃ e' t3, Ew e' ∧ isIo t3 = false ∧ s = [.frz (scriptV ns), s1, .own e', t3, .emp, .emp]) (xs := (List.range 4).map fun (i : Nat) => PyData.int (i : Int)) (i := 0) (s := [.frz (scriptV ns), s1, .own e, s3, .emp, .emp]) ⟨e, s3, he, i3, rfl⟩ fun k x hx s hs => by
      obtain ⟨e', t3, he', i3, rfl⟩ := hs
      obtain ⟨e2, he2, c⟩ := phi21 4 he'
      refine ⟨[.frz (scriptV ns), s1, .own e2, .frz x, .emp, .emp], ?_, e2, .frz x, he2, rfl, rfl⟩
      clear hx
      cases t3 with
      | io d => cases i3
      | _ => clear i3; trivial
    obtain ⟨s', h1, e', t3, he', i3', rfl⟩ := H
    exact ⟨e', t3, he', i3', h1⟩
  obtain ⟨K, hK3, hK⟩ : ∃ K : Nat, K ≤ 3 ∧ (if (if ((ns.length : Nat) : Int) < 3 then ((ns.length : Nat) : Int) else 3) > 1 then (if ((ns.length : Nat) : Int) < 3 then ((ns.length : Nat) : Int) else 3) else 1) = (K : Int) := by
    by_cases h : ((ns.length : Nat) : Int) < 3
    · by_cases h2 : ((ns.length : Nat) : Int) > 1
      · exact ⟨ns.length, by omega, by rw [if_pos h, if_pos h2]⟩
      · exact ⟨1, by omega, by rw [if_pos h, if_neg h2]; rfl⟩
    · exact ⟨3, by omega, by rw [if_neg h]; rfl⟩
  have iK := rng_map (m := (K : Int)) (n := K) rfl (by unfold lim; omega)
  have bl := b_lenS (ns := ns)
  have outer := for_inv (step := turn (prg.cf 11) (.name 1) [.asg (.name 2) (.call 13 [.var 0, .var 1]), .loop (.name 3) .rng [.cint 4] [.ite (.not (.call 21 [.peek 2])) [.ret (.cbl false)] []]]) (fun k s => ∃ s1 s2 s3, isIo s1 = false ∧ isIo s2 = false ∧ isIo s3 = false ∧ s = [.frz (scriptV ns), s1, s2, s3, .emp, .emp]) (xs := (List.range K).map fun (i : Nat) => PyData.int (i : Int)) (i := 0) (s := [.frz (scriptV ns), .emp, .emp, .emp, .emp, .emp]) ⟨.emp, .emp, .emp, rfl, rfl, rfl, rfl⟩ fun k x hx s hs => by
    obtain ⟨s1, s2, s3, j1, j2, j3, rfl⟩ := hs
    rw [List.getElem?_map] at hx
    cases hz : (List.range K)[k]? with
    | none => rw [hz] at hx; cases hx
    | some k' =>
      rw [hz] at hx
      injection hx with hx
      subst hx
      obtain ⟨e, he, c⟩ := ewer 10 ns k'
      obtain ⟨e', t3, he', i3', hin⟩ := inner e (.frz (.int (k' : Int))) s3 he j3
      refine ⟨[.frz (scriptV ns), .frz (.int (k' : Int)), .own e', t3, .emp, .emp], ?_, _, _, _, rfl, rfl, i3', rfl⟩
      clear hz inner he' i3'
      cases s1 with
      | io d => cases j1
      | _ =>
        cases s2 with
        | io d => cases j2
        | _ => clear j1 j2 j3; trivial
  obtain ⟨s', f1, s1, s2, s3, j1, j2, j3, rfl⟩ := outer
  have v1 : prg.Φ 11 9 [.tuple [.tuple [.int 2, .int 1], .tuple [.int 1, .int 3]], .tuple [.int 0, .int 1]] = some (.frz (.int 11), []) := phi9 7 (T := [(2, 1), (1, 3)]) (vd_of (by decide)) (o := [0, 1]) (List.Perm.refl _)
  have v2 : prg.Φ 11 10 [.tuple [.tuple [.int 2, .int 1], .tuple [.int 1, .int 3]]] = some (.frz (.int 6), []) := phi10 7 (T := [(2, 1), (1, 3)]) (vd_of (by decide))
  have v3 : prg.Φ 11 11 [.tuple [.tuple [.int 2, .int 1], .tuple [.int 1, .int 3]], .tuple [.int 1, .int 0]] = some (.frz (.bool true), []) := by
    have h := phi11 7 (T := [(2, 1), (1, 3)]) (vd_of (by decide)) (clean_odv [1, 0])
    rw [rle_good (List.Perm.swap 0 1 [])] at h
    exact h
  have v4 : prg.Φ 11 12 [.tuple [.tuple [.int 1, .int 1], .tuple [.int 2, .int 2], .tuple [.int 1, .int 0]]] = some (.frz (.int 2), []) := phi12 7 (T := [(1, 1), (2, 2), (1, 0)]) (vd_of (by decide))
  have v5 : prg.Φ 11 12 [.tuple [.tuple [.int 1, .int 0], .tuple [.int 5, .int 0]]] = some (.frz (.int 2), []) := phi12 7 (T := [(1, 0), (5, 0)]) (vd_of (by decide))
  have v6 : prg.Φ 11 12 [tk (List.replicate 9 (1, 1))] = some (.frz (.int 362880), []) := by
    have h := phi12 7 (T := List.replicate 9 (1, 1)) (vd_of (by decide))
    rw [show Mth.cntO (List.replicate 9 (1, 1)) (List.replicate 9 ((1 : Int), (1 : Int))).length = 362880 by decide +kernel] at h
    exact h
  have b9 : binOp .Mult (.tuple [.tuple [.int 1, .int 1]]) (.int 9) = some (.frz (tk (List.replicate 9 (1, 1)))) := by
    show (if [PyData.tuple [.int 1, .int 1]] ≠ [] ∧ (2 : Int) ≤ 9 ∧ (9 : Int) ≤ 1000 ∧ [PyData.tuple [.int 1, .int 1]].length ≤ 1000 then some (Rv.frz (.tuple (List.replicate (9 : Int).toNat [PyData.tuple [.int 1, .int 1]]).flatten)) else none) = _
    rw [if_pos ⟨by simp, by decide, by decide, by decide⟩]
    rfl
  have q1 : eqOp (.list [.int 11, .int 6, .bool true, .int 2]) (.list [.int 11, .int 6, .bool true, .int 2]) = some true := by decide +kernel
  have q2 : ∀ x : Int, eqOp (.int x) (.int x) = some true := fun x => by rw [e_int]; simp
  rw [phi_run (n := 11) (d := d23) rfl]
  refine run_frz rfl (by decide) (s := [.frz (scriptV ns), s1, s2, s3, .frz (.tuple [.tuple [.int 2, .int 1], .tuple [.int 1, .int 3]]), .own (.list [.int 11, .int 6, .bool true, .int 2])]) ?_ rfl
  show evSs (prg.cf 11) b23 [.frz (scriptV ns), .emp, .emp, .emp, .emp, .emp] = _
  unfold b23
  clear inner j1 j2 j3 hK3
  trivial
/-! ### the end of the law -/
section
variable {P : Program}
theorem all_mk {l : PySem.W.OpenLaw} {w : World} {K : PySem.W.Frag} {h : Heap} {mg : Str → Option Value} {fa : Addr} (X : K.In h) (G : h.Ns mainGlobals mg) (hfa : mg "law" = some (.ref fa))
    {f0 : Addr} {od0 an0 : Option Addr} {sl0 : Array (Option Value)} {oc0 kV0 dc0 pm0 cd0 ct0 : Value}
    {f1 : Addr} {od1 an1 : Option Addr} {sl1 : Array (Option Value)} {oc1 kV1 dc1 pm1 cd1 ct1 : Value}
    {f2 : Addr} {od2 an2 : Option Addr} {sl2 : Array (Option Value)} {oc2 kV2 dc2 pm2 cd2 ct2 : Value}
    {f3 : Addr} {od3 an3 : Option Addr} {sl3 : Array (Option Value)} {oc3 kV3 dc3 pm3 cd3 ct3 : Value}
    {f4 : Addr} {od4 an4 : Option Addr} {sl4 : Array (Option Value)} {oc4 kV4 dc4 pm4 cd4 ct4 : Value}
    {f5 : Addr} {od5 an5 : Option Addr} {sl5 : Array (Option Value)} {oc5 kV5 dc5 pm5 cd5 ct5 : Value}
    {f6 : Addr} {od6 an6 : Option Addr} {sl6 : Array (Option Value)} {oc6 kV6 dc6 pm6 cd6 ct6 : Value}
    {f7 : Addr} {od7 an7 : Option Addr} {sl7 : Array (Option Value)} {oc7 kV7 dc7 pm7 cd7 ct7 : Value}
    {f8 : Addr} {od8 an8 : Option Addr} {sl8 : Array (Option Value)} {oc8 kV8 dc8 pm8 cd8 ct8 : Value}
    {f9 : Addr} {od9 an9 : Option Addr} {sl9 : Array (Option Value)} {oc9 kV9 dc9 pm9 cd9 ct9 : Value}
    {f10 : Addr} {od10 an10 : Option Addr} {sl10 : Array (Option Value)} {oc10 kV10 dc10 pm10 cd10 ct10 : Value}
    {f11 : Addr} {od11 an11 : Option Addr} {sl11 : Array (Option Value)} {oc11 kV11 dc11 pm11 cd11 ct11 : Value}
    {f12 : Addr} {od12 an12 : Option Addr} {sl12 : Array (Option Value)} {oc12 kV12 dc12 pm12 cd12 ct12 : Value}
    {f13 : Addr} {od13 an13 : Option Addr} {sl13 : Array (Option Value)} {oc13 kV13 dc13 pm13 cd13 ct13 : Value}
    {f14 : Addr} {od14 an14 : Option Addr} {sl14 : Array (Option Value)} {oc14 kV14 dc14 pm14 cd14 ct14 : Value}
    {f15 : Addr} {od15 an15 : Option Addr} {sl15 : Array (Option Value)} {oc15 kV15 dc15 pm15 cd15 ct15 : Value}
    {f16 : Addr} {od16 an16 : Option Addr} {sl16 : Array (Option Value)} {oc16 kV16 dc16 pm16 cd16 ct16 : Value}
    {f17 : Addr} {od17 an17 : Option Addr} {sl17 : Array (Option Value)} {oc17 kV17 dc17 pm17 cd17 ct17 : Value}
    {f18 : Addr} {od18 an18 : Option Addr} {sl18 : Array (Option Value)} {oc18 kV18 dc18 pm18 cd18 ct18 : Value}
    {f19 : Addr} {od19 an19 : Option Addr} {sl19 : Array (Option Value)} {oc19 kV19 dc19 pm19 cd19 ct19 : Value}
    {f20 : Addr} {od20 an20 : Option Addr} {sl20 : Array (Option Value)} {oc20 kV20 dc20 pm20 cd20 ct20 : Value}
    {f21 : Addr} {od21 an21 : Option Addr} {sl21 : Array (Option Value)} {oc21 kV21 dc21 pm21 cd21 ct21 : Value}
    {f22 : Addr} {od22 an22 : Option Addr} {sl22 : Array (Option Value)} {oc22 kV22 dc22 pm22 cd22 ct22 : Value}
    {f23 : Addr} {od23 an23 : Option Addr} {sl23 : Array (Option Value)} {oc23 kV23 dc23 pm23 cd23 ct23 : Value}
    {t0 : Tok}
    {t1 : Tok}
    {t2 : Tok}
    (a0 : PySem.W.nsIn K mainGlobals "is_amount_within" = some (some (.ref f0)))
    (l0 : K.lookup f0 = some ⟨oc0, od0, .func (PySem.W.fnOf "is_amount_within" "is_amount_within" (defArgs (topS 8)) (defBody (topS 8)) (defScope (topS 8)) .none kV0 dc0 pm0 an0 cd0 ct0), sl0⟩)
    (c0 : PySem.W.codeIn K cd0 "is_amount_within" = true)
    (k0 : PySem.W.keepIn K (.ref f0) = true)
    (a1 : PySem.W.nsIn K mainGlobals "is_whole_order" = some (some (.ref f1)))
    (l1 : K.lookup f1 = some ⟨oc1, od1, .func (PySem.W.fnOf "is_whole_order" "is_whole_order" (defArgs (topS 9)) (defBody (topS 9)) (defScope (topS 9)) .none kV1 dc1 pm1 an1 cd1 ct1), sl1⟩)
    (c1 : PySem.W.codeIn K cd1 "is_whole_order" = true)
    (k1 : PySem.W.keepIn K (.ref f1) = true)
    (a2 : PySem.W.nsIn K mainGlobals "ends_sum" = some (some (.ref f2)))
    (l2 : K.lookup f2 = some ⟨oc2, od2, .func (PySem.W.fnOf "ends_sum" "ends_sum" (defArgs (topS 10)) (defBody (topS 10)) (defScope (topS 10)) .none kV2 dc2 pm2 an2 cd2 ct2), sl2⟩)
    (c2 : PySem.W.codeIn K cd2 "ends_sum" = true)
    (k2 : PySem.W.keepIn K (.ref f2) = true)
    (a3 : PySem.W.nsIn K mainGlobals "smith_sum" = some (some (.ref f3)))
    (l3 : K.lookup f3 = some ⟨oc3, od3, .func (PySem.W.fnOf "smith_sum" "smith_sum" (defArgs (topS 11)) (defBody (topS 11)) (defScope (topS 11)) .none kV3 dc3 pm3 an3 cd3 ct3), sl3⟩)
    (c3 : PySem.W.codeIn K cd3 "smith_sum" = true)
    (k3 : PySem.W.keepIn K (.ref f3) = true)
    (a4 : PySem.W.nsIn K mainGlobals "are_like_tasks" = some (some (.ref f4)))
    (l4 : K.lookup f4 = some ⟨oc4, od4, .func (PySem.W.fnOf "are_like_tasks" "are_like_tasks" (defArgs (topS 12)) (defBody (topS 12)) (defScope (topS 12)) .none kV4 dc4 pm4 an4 cd4 ct4), sl4⟩)
    (c4 : PySem.W.codeIn K cd4 "are_like_tasks" = true)
    (k4 : PySem.W.keepIn K (.ref f4) = true)
    (a5 : PySem.W.nsIn K mainGlobals "count_least_orders" = some (some (.ref f5)))
    (l5 : K.lookup f5 = some ⟨oc5, od5, .func (PySem.W.fnOf "count_least_orders" "count_least_orders" (defArgs (topS 13)) (defBody (topS 13)) (defScope (topS 13)) .none kV5 dc5 pm5 an5 cd5 ct5), sl5⟩)
    (c5 : PySem.W.codeIn K cd5 "count_least_orders" = true)
    (k5 : PySem.W.keepIn K (.ref f5) = true)
    (a6 : PySem.W.nsIn K mainGlobals "are_amount_pairs" = some (some (.ref f6)))
    (l6 : K.lookup f6 = some ⟨oc6, od6, .func (PySem.W.fnOf "are_amount_pairs" "are_amount_pairs" (defArgs (topS 14)) (defBody (topS 14)) (defScope (topS 14)) .none kV6 dc6 pm6 an6 cd6 ct6), sl6⟩)
    (c6 : PySem.W.codeIn K cd6 "are_amount_pairs" = true)
    (k6 : PySem.W.keepIn K (.ref f6) = true)
    (a7 : PySem.W.nsIn K mainGlobals "require_weighed" = some (some (.ref f7)))
    (l7 : K.lookup f7 = some ⟨oc7, od7, .func (PySem.W.fnOf "require_weighed" "require_weighed" (defArgs (topS 15)) (defBody (topS 15)) (defScope (topS 15)) .none kV7 dc7 pm7 an7 cd7 ct7), sl7⟩)
    (c7 : PySem.W.codeIn K cd7 "require_weighed" = true)
    (k7 : PySem.W.keepIn K (.ref f7) = true)
    (a8 : PySem.W.nsIn K mainGlobals "require_whole_order" = some (some (.ref f8)))
    (l8 : K.lookup f8 = some ⟨oc8, od8, .func (PySem.W.fnOf "require_whole_order" "require_whole_order" (defArgs (topS 16)) (defBody (topS 16)) (defScope (topS 16)) .none kV8 dc8 pm8 an8 cd8 ct8), sl8⟩)
    (c8 : PySem.W.codeIn K cd8 "require_whole_order" = true)
    (k8 : PySem.W.keepIn K (.ref f8) = true)
    (a9 : PySem.W.nsIn K mainGlobals "sum_of" = some (some (.ref f9)))
    (l9 : K.lookup f9 = some ⟨oc9, od9, .func (PySem.W.fnOf "sum_of" "sum_of" (defArgs (topS 17)) (defBody (topS 17)) (defScope (topS 17)) .none kV9 dc9 pm9 an9 cd9 ct9), sl9⟩)
    (c9 : PySem.W.codeIn K cd9 "sum_of" = true)
    (k9 : PySem.W.keepIn K (.ref f9) = true)
    (a10 : PySem.W.nsIn K mainGlobals "least_sum" = some (some (.ref f10)))
    (l10 : K.lookup f10 = some ⟨oc10, od10, .func (PySem.W.fnOf "least_sum" "least_sum" (defArgs (topS 18)) (defBody (topS 18)) (defScope (topS 18)) .none kV10 dc10 pm10 an10 cd10 ct10), sl10⟩)
    (c10 : PySem.W.codeIn K cd10 "least_sum" = true)
    (k10 : PySem.W.keepIn K (.ref f10) = true)
    (a11 : PySem.W.nsIn K mainGlobals "is_least_order" = some (some (.ref f11)))
    (l11 : K.lookup f11 = some ⟨oc11, od11, .func (PySem.W.fnOf "is_least_order" "is_least_order" (defArgs (topS 19)) (defBody (topS 19)) (defScope (topS 19)) .none kV11 dc11 pm11 an11 cd11 ct11), sl11⟩)
    (c11 : PySem.W.codeIn K cd11 "is_least_order" = true)
    (k11 : PySem.W.keepIn K (.ref f11) = true)
    (a12 : PySem.W.nsIn K mainGlobals "count_least" = some (some (.ref f12)))
    (l12 : K.lookup f12 = some ⟨oc12, od12, .func (PySem.W.fnOf "count_least" "count_least" (defArgs (topS 20)) (defBody (topS 20)) (defScope (topS 20)) .none kV12 dc12 pm12 an12 cd12 ct12), sl12⟩)
    (c12 : PySem.W.codeIn K cd12 "count_least" = true)
    (k12 : PySem.W.keepIn K (.ref f12) = true)
    (a13 : PySem.W.nsIn K mainGlobals "_law_ewer" = some (some (.ref f13)))
    (l13 : K.lookup f13 = some ⟨oc13, od13, .func (PySem.W.fnOf "_law_ewer" "_law_ewer" (defArgs (topS 22)) (defBody (topS 22)) (defScope (topS 22)) .none kV13 dc13 pm13 an13 cd13 ct13), sl13⟩)
    (c13 : PySem.W.codeIn K cd13 "_law_ewer" = true)
    (k13 : PySem.W.keepIn K (.ref f13) = true)
    (a14 : PySem.W.nsIn K mainGlobals "_law_drip" = some (some (.ref f14)))
    (l14 : K.lookup f14 = some ⟨oc14, od14, .func (PySem.W.fnOf "_law_drip" "_law_drip" (defArgs (topS 23)) (defBody (topS 23)) (defScope (topS 23)) .none kV14 dc14 pm14 an14 cd14 ct14), sl14⟩)
    (c14 : PySem.W.codeIn K cd14 "_law_drip" = true)
    (k14 : PySem.W.keepIn K (.ref f14) = true)
    (a15 : PySem.W.nsIn K mainGlobals "_law_sip" = some (some (.ref f15)))
    (l15 : K.lookup f15 = some ⟨oc15, od15, .func (PySem.W.fnOf "_law_sip" "_law_sip" (defArgs (topS 24)) (defBody (topS 24)) (defScope (topS 24)) .none kV15 dc15 pm15 an15 cd15 ct15), sl15⟩)
    (c15 : PySem.W.codeIn K cd15 "_law_sip" = true)
    (k15 : PySem.W.keepIn K (.ref f15) = true)
    (a16 : PySem.W.nsIn K mainGlobals "_law_is_integer" = some (some (.ref f16)))
    (l16 : K.lookup f16 = some ⟨oc16, od16, .func (PySem.W.fnOf "_law_is_integer" "_law_is_integer" (defArgs (topS 25)) (defBody (topS 25)) (defScope (topS 25)) .none kV16 dc16 pm16 an16 cd16 ct16), sl16⟩)
    (c16 : PySem.W.codeIn K cd16 "_law_is_integer" = true)
    (k16 : PySem.W.keepIn K (.ref f16) = true)
    (a17 : PySem.W.nsIn K mainGlobals "_law_orders" = some (some (.ref f17)))
    (l17 : K.lookup f17 = some ⟨oc17, od17, .func (PySem.W.fnOf "_law_orders" "_law_orders" (defArgs (topS 26)) (defBody (topS 26)) (defScope (topS 26)) .none kV17 dc17 pm17 an17 cd17 ct17), sl17⟩)
    (c17 : PySem.W.codeIn K cd17 "_law_orders" = true)
    (k17 : PySem.W.keepIn K (.ref f17) = true)
    (a18 : PySem.W.nsIn K mainGlobals "_law_is_order" = some (some (.ref f18)))
    (l18 : K.lookup f18 = some ⟨oc18, od18, .func (PySem.W.fnOf "_law_is_order" "_law_is_order" (defArgs (topS 27)) (defBody (topS 27)) (defScope (topS 27)) .none kV18 dc18 pm18 an18 cd18 ct18), sl18⟩)
    (c18 : PySem.W.codeIn K cd18 "_law_is_order" = true)
    (k18 : PySem.W.keepIn K (.ref f18) = true)
    (a19 : PySem.W.nsIn K mainGlobals "_law_weighed" = some (some (.ref f19)))
    (l19 : K.lookup f19 = some ⟨oc19, od19, .func (PySem.W.fnOf "_law_weighed" "_law_weighed" (defArgs (topS 28)) (defBody (topS 28)) (defScope (topS 28)) .none kV19 dc19 pm19 an19 cd19 ct19), sl19⟩)
    (c19 : PySem.W.codeIn K cd19 "_law_weighed" = true)
    (k19 : PySem.W.keepIn K (.ref f19) = true)
    (a20 : PySem.W.nsIn K mainGlobals "_law_sum" = some (some (.ref f20)))
    (l20 : K.lookup f20 = some ⟨oc20, od20, .func (PySem.W.fnOf "_law_sum" "_law_sum" (defArgs (topS 29)) (defBody (topS 29)) (defScope (topS 29)) .none kV20 dc20 pm20 an20 cd20 ct20), sl20⟩)
    (c20 : PySem.W.codeIn K cd20 "_law_sum" = true)
    (k20 : PySem.W.keepIn K (.ref f20) = true)
    (a21 : PySem.W.nsIn K mainGlobals "_law_right" = some (some (.ref f21)))
    (l21 : K.lookup f21 = some ⟨oc21, od21, .func (PySem.W.fnOf "_law_right" "_law_right" (defArgs (topS 30)) (defBody (topS 30)) (defScope (topS 30)) .none kV21 dc21 pm21 an21 cd21 ct21), sl21⟩)
    (c21 : PySem.W.codeIn K cd21 "_law_right" = true)
    (k21 : PySem.W.keepIn K (.ref f21) = true)
    (a22 : PySem.W.nsIn K mainGlobals "_law_is_true" = some (some (.ref f22)))
    (l22 : K.lookup f22 = some ⟨oc22, od22, .func (PySem.W.fnOf "_law_is_true" "_law_is_true" (defArgs (topS 31)) (defBody (topS 31)) (defScope (topS 31)) .none kV22 dc22 pm22 an22 cd22 ct22), sl22⟩)
    (c22 : PySem.W.codeIn K cd22 "_law_is_true" = true)
    (k22 : PySem.W.keepIn K (.ref f22) = true)
    (a23 : PySem.W.nsIn K mainGlobals "law" = some (some (.ref f23)))
    (l23 : K.lookup f23 = some ⟨oc23, od23, .func (PySem.W.fnOf "law" "law" (defArgs (topS 32)) (defBody (topS 32)) (defScope (topS 32)) .none kV23 dc23 pm23 an23 cd23 ct23), sl23⟩)
    (c23 : PySem.W.codeIn K cd23 "law" = true)
    (k23 : PySem.W.keepIn K (.ref f23) = true)
    (u0 : PySem.W.nsIn K mainGlobals "MOST_SPAN" = some (some (.int 99 t0)))
    (u1 : PySem.W.nsIn K mainGlobals "MOST_WEIGHED" = some (some (.int 9 t1)))
    (u2 : PySem.W.nsIn K mainGlobals "MOST_WEIGHT" = some (some (.int 99 t2)))
    (z0 : PySem.W.nsIn K mainGlobals "len" = some none)
    (z1 : PySem.W.nsIn K mainGlobals "abs" = some none)
    (z2 : PySem.W.nsIn K mainGlobals "min" = some none)
    (z3 : PySem.W.nsIn K mainGlobals "max" = some none)
    (z4 : PySem.W.nsIn K mainGlobals "sum" = some none)
    (z5 : PySem.W.nsIn K mainGlobals "all" = some none)
    (z6 : PySem.W.nsIn K mainGlobals "any" = some none)
    (z7 : PySem.W.nsIn K mainGlobals "sorted" = some none)
    (z8 : PySem.W.nsIn K mainGlobals "int" = some none)
    (z9 : PySem.W.nsIn K mainGlobals "list" = some none)
    (z10 : PySem.W.nsIn K mainGlobals "tuple" = some none)
    (z11 : PySem.W.nsIn K mainGlobals "repr" = some none)
    (z12 : PySem.W.nsIn K mainGlobals "range" = some none)
    (z13 : PySem.W.nsIn K mainGlobals "enumerate" = some none)
    (z14 : PySem.W.nsIn K mainGlobals "zip" = some none)
    (z15 : PySem.W.nsIn K mainGlobals "isinstance" = some none)
    (z16 : PySem.W.nsIn K mainGlobals "bool" = some none)
    (z17 : PySem.W.nsIn K mainGlobals "str" = some none)
    (z18 : PySem.W.nsIn K mainGlobals "dict" = some none)
    : ∃ fd : FuncData, (∀ (s : Shared) (v : Value), BindsTo s fd ⟨[v], []⟩ [("script", v)]) ∧ ∀ base : Heap, K.In base → base.Ns mainGlobals mg → FnOk l.prog w K mg base CX0 12 fa fd ["script"] (spF K prg 12 23) := by
  have e := hfa.symm.trans (PySem.W.mg_of X G a23)
  cases e
  have F0 := fun_mk (st := topS 8) l0 c0 k0
  have B0 : Binds K _ (d0.N.take d0.np) [] := F0.binds (ps := d0.N.take d0.np) fun _ _ _ _ _ _ us hl => match us, hl with | [_, _, _], _ => rfl
  have F1 := fun_mk (st := topS 9) l1 c1 k1
  have B1 : Binds K _ (d1.N.take d1.np) [] := F1.binds (ps := d1.N.take d1.np) fun _ _ _ _ _ _ us hl => match us, hl with | [_, _], _ => rfl
  have F2 := fun_mk (st := topS 10) l2 c2 k2
  have B2 : Binds K _ (d2.N.take d2.np) [] := F2.binds (ps := d2.N.take d2.np) fun _ _ _ _ _ _ us hl => match us, hl with | [_, _], _ => rfl
  have F3 := fun_mk (st := topS 11) l3 c3 k3
  have B3 : Binds K _ (d3.N.take d3.np) [] := F3.binds (ps := d3.N.take d3.np) fun _ _ _ _ _ _ us hl => match us, hl with | [_], _ => rfl
  have F4 := fun_mk (st := topS 12) l4 c4 k4
  have B4 : Binds K _ (d4.N.take d4.np) [] := F4.binds (ps := d4.N.take d4.np) fun _ _ _ _ _ _ us hl => match us, hl with | [_, _], _ => rfl
  have F5 := fun_mk (st := topS 13) l5 c5 k5
  have B5 : Binds K _ (d5.N.take d5.np) [] := F5.binds (ps := d5.N.take d5.np) fun _ _ _ _ _ _ us hl => match us, hl with | [_], _ => rfl
  have F6 := fun_mk (st := topS 14) l6 c6 k6
  have B6 : Binds K _ (d6.N.take d6.np) [] := F6.binds (ps := d6.N.take d6.np) fun _ _ _ _ _ _ us hl => match us, hl with | [_, _, _, _], _ => rfl
  have F7 := fun_mk (st := topS 15) l7 c7 k7
  have B7 : Binds K _ (d7.N.take d7.np) [] := F7.binds (ps := d7.N.take d7.np) fun _ _ _ _ _ _ us hl => match us, hl with | [_], _ => rfl
  have F8 := fun_mk (st := topS 16) l8 c8 k8
  have B8 : Binds K _ (d8.N.take d8.np) [] := F8.binds (ps := d8.N.take d8.np) fun _ _ _ _ _ _ us hl => match us, hl with | [_, _], _ => rfl
  have F9 := fun_mk (st := topS 17) l9 c9 k9
  have B9 : Binds K _ (d9.N.take d9.np) [] := F9.binds (ps := d9.N.take d9.np) fun _ _ _ _ _ _ us hl => match us, hl with | [_, _], _ => rfl
  have F10 := fun_mk (st := topS 18) l10 c10 k10
  have B10 : Binds K _ (d10.N.take d10.np) [] := F10.binds (ps := d10.N.take d10.np) fun _ _ _ _ _ _ us hl => match us, hl with | [_], _ => rfl
  have F11 := fun_mk (st := topS 19) l11 c11 k11
  have B11 : Binds K _ (d11.N.take d11.np) [] := F11.binds (ps := d11.N.take d11.np) fun _ _ _ _ _ _ us hl => match us, hl with | [_, _], _ => rfl
  have F12 := fun_mk (st := topS 20) l12 c12 k12
  have B12 : Binds K _ (d12.N.take d12.np) [] := F12.binds (ps := d12.N.take d12.np) fun _ _ _ _ _ _ us hl => match us, hl with | [_], _ => rfl
  have F13 := fun_mk (st := topS 22) l13 c13 k13
  have B13 : Binds K _ (d13.N.take d13.np) [] := F13.binds (ps := d13.N.take d13.np) fun _ _ _ _ _ _ us hl => match us, hl with | [_, _], _ => rfl
  have F14 := fun_mk (st := topS 23) l14 c14 k14
  have B14 : Binds K _ (d14.N.take d14.np) [] := F14.binds (ps := d14.N.take d14.np) fun _ _ _ _ _ _ us hl => match us, hl with | [_, _], _ => rfl
  have F15 := fun_mk (st := topS 24) l15 c15 k15
  have B15 : Binds K _ (d15.N.take d15.np) [] := F15.binds (ps := d15.N.take d15.np) fun _ _ _ _ _ _ us hl => match us, hl with | [_, _], _ => rfl
  have F16 := fun_mk (st := topS 25) l16 c16 k16
  have B16 : Binds K _ (d16.N.take d16.np) [] := F16.binds (ps := d16.N.take d16.np) fun _ _ _ _ _ _ us hl => match us, hl with | [_], _ => rfl
  have F17 := fun_mk (st := topS 26) l17 c17 k17
  have B17 : Binds K _ (d17.N.take d17.np) [] := F17.binds (ps := d17.N.take d17.np) fun _ _ _ _ _ _ us hl => match us, hl with | [_], _ => rfl
  have F18 := fun_mk (st := topS 27) l18 c18 k18
  have B18 : Binds K _ (d18.N.take d18.np) [] := F18.binds (ps := d18.N.take d18.np) fun _ _ _ _ _ _ us hl => match us, hl with | [_, _], _ => rfl
  have F19 := fun_mk (st := topS 28) l19 c19 k19
  have B19 : Binds K _ (d19.N.take d19.np) [] := F19.binds (ps := d19.N.take d19.np) fun _ _ _ _ _ _ us hl => match us, hl with | [_, _], _ => rfl
  have F20 := fun_mk (st := topS 29) l20 c20 k20
  have B20 : Binds K _ (d20.N.take d20.np) [] := F20.binds (ps := d20.N.take d20.np) fun _ _ _ _ _ _ us hl => match us, hl with | [_, _], _ => rfl
  have F21 := fun_mk (st := topS 30) l21 c21 k21
  have B21 : Binds K _ (d21.N.take d21.np) [] := F21.binds (ps := d21.N.take d21.np) fun _ _ _ _ _ _ us hl => match us, hl with | [_], _ => rfl
  have F22 := fun_mk (st := topS 31) l22 c22 k22
  have B22 : Binds K _ (d22.N.take d22.np) [] := F22.binds (ps := d22.N.take d22.np) fun _ _ _ _ _ _ us hl => match us, hl with | [_, _, _], _ => rfl
  have F23 := fun_mk (st := topS 32) l23 c23 k23
  have B23 : Binds K _ (d23.N.take d23.np) [] := F23.binds (ps := d23.N.take d23.np) fun _ _ _ _ _ _ us hl => match us, hl with | [_], _ => rfl
  refine ⟨PySem.W.fnOf "law" "law" (defArgs (topS 32)) (defBody (topS 32)) (defScope (topS 32)) .none kV23 dc23 pm23 an23 cd23 ct23, fun s v => .of_eq rfl, fun base hb hg => ?_⟩
  have W : WF prg l.prog w K mg base fns gs [topS 8, topS 9, topS 10, topS 11, topS 12, topS 13, topS 14, topS 15, topS 16, topS 17, topS 18, topS 19, topS 20, topS 22, topS 23, topS 24, topS 25, topS 26, topS 27, topS 28, topS 29, topS 30, topS 31, topS 32] := by
    refine ⟨fun x hx => ?_, fun g x d h1 h2 => ?_, rfl, (.cons F0 (PySem.W.mg_of X G a0) B0 sc0 ok0 (.cons F1 (PySem.W.mg_of X G a1) B1 sc1 ok1 (.cons F2 (PySem.W.mg_of X G a2) B2 sc2 ok2 (.cons F3 (PySem.W.mg_of X G a3) B3 sc3 ok3 (.cons F4 (PySem.W.mg_of X G a4) B4 sc4 ok4 (.cons F5 (PySem.W.mg_of X G a5) B5 sc5 ok5 (.cons F6 (PySem.W.mg_of X G a6) B6 sc6 ok6 (.cons F7 (PySem.W.mg_of X G a7) B7 sc7 ok7 (.cons F8 (PySem.W.mg_of X G a8) B8 sc8 ok8 (.cons F9 (PySem.W.mg_of X G a9) B9 sc9 ok9 (.cons F10 (PySem.W.mg_of X G a10) B10 sc10 ok10 (.cons F11 (PySem.W.mg_of X G a11) B11 sc11 ok11 (.cons F12 (PySem.W.mg_of X G a12) B12 sc12 ok12 (.cons F13 (PySem.W.mg_of X G a13) B13 sc13 ok13 (.cons F14 (PySem.W.mg_of X G a14) B14 sc14 ok14 (.cons F15 (PySem.W.mg_of X G a15) B15 sc15 ok15 (.cons F16 (PySem.W.mg_of X G a16) B16 sc16 ok16 (.cons F17 (PySem.W.mg_of X G a17) B17 sc17 ok17 (.cons F18 (PySem.W.mg_of X G a18) B18 sc18 ok18 (.cons F19 (PySem.W.mg_of X G a19) B19 sc19 ok19 (.cons F20 (PySem.W.mg_of X G a20) B20 sc20 ok20 (.cons F21 (PySem.W.mg_of X G a21) B21 sc21 ok21 (.cons F22 (PySem.W.mg_of X G a22) B22 sc22 ok22 (.cons F23 (PySem.W.mg_of X G a23) B23 sc23 ok23 .nil))))))))))))))))))))))))⟩
    · simp only [bltNames, List.mem_cons, List.not_mem_nil, or_false] at hx
      rcases hx with rfl | rfl | rfl | rfl | rfl | rfl | rfl | rfl | rfl | rfl | rfl | rfl | rfl | rfl | rfl | rfl | rfl | rfl | rfl
      · exact PySem.W.mg_none_of X G z0
      · exact PySem.W.mg_none_of X G z1
      · exact PySem.W.mg_none_of X G z2
      · exact PySem.W.mg_none_of X G z3
      · exact PySem.W.mg_none_of X G z4
      · exact PySem.W.mg_none_of X G z5
      · exact PySem.W.mg_none_of X G z6
      · exact PySem.W.mg_none_of X G z7
      · exact PySem.W.mg_none_of X G z8
      · exact PySem.W.mg_none_of X G z9
      · exact PySem.W.mg_none_of X G z10
      · exact PySem.W.mg_none_of X G z11
      · exact PySem.W.mg_none_of X G z12
      · exact PySem.W.mg_none_of X G z13
      · exact PySem.W.mg_none_of X G z14
      · exact PySem.W.mg_none_of X G z15
      · exact PySem.W.mg_none_of X G z16
      · exact PySem.W.mg_none_of X G z17
      · exact PySem.W.mg_none_of X G z18
    · match g, h1, h2 with
      | 0, h1, h2 => cases h1; cases h2; exact ⟨.int 99, .int 99 t0, PySem.W.mg_of X G u0, ⟨_, rfl⟩, fun H => .int _⟩
      | 1, h1, h2 => cases h1; cases h2; exact ⟨.int 9, .int 9 t1, PySem.W.mg_of X G u1, ⟨_, rfl⟩, fun H => .int _⟩
      | 2, h1, h2 => cases h1; cases h2; exact ⟨.int 99, .int 99 t2, PySem.W.mg_of X G u2, ⟨_, rfl⟩, fun H => .int _⟩
      | g + 3, h1, h2 => simp [gs] at h1
  exact law_at (d := d23) W rfl (PySem.W.mg_of X G a23) rfl F23
end
end Lk76
open PySem PySem.W PyProof.Rows
set_option maxHeartbeats 0 in
theorem PySem.Challenge.cw_loadwide_k76_whole_sums_of_weighted_ends_holds : PySem.Challenge.rw_loadwide_k76_whole_sums_of_weighted_ends.Holds := by
  w_on; o_law; k_head; (case hw => w_witness2)
  k_fill
  refine L2.walk_of (l := PySem.Challenge.rw_loadwide_k76_whole_sums_of_weighted_ends) (n := 63) (k := 12) (x := "script") (CX := fun _ => L2.CX0) (sp := fun w => Ev.spF _ Lk76.prg 12 23) rfl (by decide) rfl ⟨rfl, by decide, by decide⟩ (fun w h Y => PySem.W.kIn_of Y) ?F (fun w H a ns hl hO hS => Ev.law_spec hS rfl (Lk76.law_true ns hl)) (fun _ _ _ _ _ h => h)
  case F =>
    intro w mg fa h KX G hmg
    refine' Lk76.all_mk KX G hmg ?a0 ?l0 ?c0 ?k0 ?a1 ?l1 ?c1 ?k1 ?a2 ?l2 ?c2 ?k2 ?a3 ?l3 ?c3 ?k3 ?a4 ?l4 ?c4 ?k4 ?a5 ?l5 ?c5 ?k5 ?a6 ?l6 ?c6 ?k6 ?a7 ?l7 ?c7 ?k7 ?a8 ?l8 ?c8 ?k8 ?a9 ?l9 ?c9 ?k9 ?a10 ?l10 ?c10 ?k10 ?a11 ?l11 ?c11 ?k11 ?a12 ?l12 ?c12 ?k12 ?a13 ?l13 ?c13 ?k13 ?a14 ?l14 ?c14 ?k14 ?a15 ?l15 ?c15 ?k15 ?a16 ?l16 ?c16 ?k16 ?a17 ?l17 ?c17 ?k17 ?a18 ?l18 ?c18 ?k18 ?a19 ?l19 ?c19 ?k19 ?a20 ?l20 ?c20 ?k20 ?a21 ?l21 ?c21 ?k21 ?a22 ?l22 ?c22 ?k22 ?a23 ?l23 ?c23 ?k23 ?u0 ?u1 ?u2 ?z0 ?z1 ?z2 ?z3 ?z4 ?z5 ?z6 ?z7 ?z8 ?z9 ?z10 ?z11 ?z12 ?z13 ?z14 ?z15 ?z16 ?z17 ?z18
    (case a0 => k_is)
    (case l0 => k_is)
    (case c0 => k_is)
    (case k0 => k_is)
    (case a1 => k_is)
    (case l1 => k_is)
    (case c1 => k_is)
    (case k1 => k_is)
    (case a2 => k_is)
    (case l2 => k_is)
    (case c2 => k_is)
    (case k2 => k_is)
    (case a3 => k_is)
    (case l3 => k_is)
    (case c3 => k_is)
    (case k3 => k_is)
    (case a4 => k_is)
    (case l4 => k_is)
    (case c4 => k_is)
    (case k4 => k_is)
    (case a5 => k_is)
    (case l5 => k_is)
    (case c5 => k_is)
    (case k5 => k_is)
    (case a6 => k_is)
    (case l6 => k_is)
    (case c6 => k_is)
    (case k6 => k_is)
    (case a7 => k_is)
    (case l7 => k_is)
    (case c7 => k_is)
    (case k7 => k_is)
    (case a8 => k_is)
    (case l8 => k_is)
    (case c8 => k_is)
    (case k8 => k_is)
    (case a9 => k_is)
    (case l9 => k_is)
    (case c9 => k_is)
    (case k9 => k_is)
    (case a10 => k_is)
    (case l10 => k_is)
    (case c10 => k_is)
    (case k10 => k_is)
    (case a11 => k_is)
    (case l11 => k_is)
    (case c11 => k_is)
    (case k11 => k_is)
    (case a12 => k_is)
    (case l12 => k_is)
    (case c12 => k_is)
    (case k12 => k_is)
    (case a13 => k_is)
    (case l13 => k_is)
    (case c13 => k_is)
    (case k13 => k_is)
    (case a14 => k_is)
    (case l14 => k_is)
    (case c14 => k_is)
    (case k14 => k_is)
    (case a15 => k_is)
    (case l15 => k_is)
    (case c15 => k_is)
    (case k15 => k_is)
    (case a16 => k_is)
    (case l16 => k_is)
    (case c16 => k_is)
    (case k16 => k_is)
    (case a17 => k_is)
    (case l17 => k_is)
    (case c17 => k_is)
    (case k17 => k_is)
    (case a18 => k_is)
    (case l18 => k_is)
    (case c18 => k_is)
    (case k18 => k_is)
    (case a19 => k_is)
    (case l19 => k_is)
    (case c19 => k_is)
    (case k19 => k_is)
    (case a20 => k_is)
    (case l20 => k_is)
    (case c20 => k_is)
    (case k20 => k_is)
    (case a21 => k_is)
    (case l21 => k_is)
    (case c21 => k_is)
    (case k21 => k_is)
    (case a22 => k_is)
    (case l22 => k_is)
    (case c22 => k_is)
    (case k22 => k_is)
    (case a23 => k_is)
    (case l23 => k_is)
    (case c23 => k_is)
    (case k23 => k_is)
    (case u0 => k_is)
    (case u1 => k_is)
    (case u2 => k_is)
    (case z0 => k_is)
    (case z1 => k_is)
    (case z2 => k_is)
    (case z3 => k_is)
    (case z4 => k_is)
    (case z5 => k_is)
    (case z6 => k_is)
    (case z7 => k_is)
    (case z8 => k_is)
    (case z9 => k_is)
    (case z10 => k_is)
    (case z11 => k_is)
    (case z12 => k_is)
    (case z13 => k_is)
    (case z14 => k_is)
    (case z15 => k_is)
    (case z16 => k_is)
    (case z17 => k_is)
    (case z18 => k_is)
