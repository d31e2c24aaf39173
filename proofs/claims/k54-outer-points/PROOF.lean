import PyProof.Rows.All
import HandS.ForMost
import HandS.TupAny
import HandS.TupLe
import HandS.Wide
import HandS.Deep
import HandS.IsInst
import HandS.Zip
import HandS.Flow
import HandS.Conv
import HandS.SetFor
import HandS.Rev
import HandS.SortOrd
import KE.SortData
import PyProof.ReprRoads
import KE.DataCmp
import KE.DataMinMax
import HandS.TupMul
import HandS.Walk
import HandS.Style
import HandS.Codes
import HandS.TupSets
import PySem.Challenge.RW_opendeeds_k54_outer_points
set_option Elab.async false
set_option linter.all false
set_option maxRecDepth 100000
section
/-! Values as data, a small language of resolved code, and what it does: no machine here. -/
namespace Pv
open PySem

abbrev D := PyData
/-- slots: none, or whether the slot alone holds its list or dict, and its data -/
abbrev Env := List (Option (Bool × D))

inductive R (α : Type) where
  | ok (a : α)
  | err (c : Str) (fs : List D) (r : Env)
  | bad
@[inline] def R.bind {α β : Type} (x : R α) (f : α → R β) : R β := match x with
  | .ok a => f a
  | .err c fs r => .err c fs r
  | .bad => .bad
instance : Monad R where
  pure := R.ok
  bind := R.bind
@[simp] theorem R.ok_bind {α β : Type} (a : α) (f : α → R β) : (R.ok a >>= f) = f a := rfl
@[simp] theorem R.pure_eq {α : Type} (a : α) : (pure a : R α) = R.ok a := rfl
@[simp] theorem R.bad_bind {α β : Type} (f : α → R β) : ((R.bad : R α) >>= f) = R.bad := rfl
@[simp] theorem R.err_bind {α β : Type} (c : Str) (fs : List D) (r : Env) (f : α → R β) : ((R.err c fs r : R α) >>= f) = R.err c fs r := rfl
theorem R.bind_ok {α β : Type} {x : R α} {f : α → R β} {b : β} (h : (x >>= f) = R.ok b) : ∃ a, x = R.ok a ∧ f a = R.ok b := by
  cases x with
  | ok a => exact ⟨a, rfl, h⟩
  | err c fs r => cases h
  | bad => cases h

/-- what a call gives: the answer (new or not) and the new contents of what it may change -/
inductive FR where
  | ok (fr : Bool) (d : D) (outs : List D)
  | err (c : Str) (fs : List D)
  | bad
structure Fn where
  /-- which parameters it may change -/
  io : List Bool
  den : List D → FR

inductive BOp | add | sub | mul | fdiv | mod | pow | shl | shr | band | bor
  deriving DecidableEq
inductive UOp | neg | inv
  deriving DecidableEq
inductive COp | lt | le | gt | ge | eq | ne | isin | notin | is_ | isnot
  deriving DecidableEq
/-- built-in functions by values -/
inductive Bi | len | tuple | list | sorted | sortset | lenset | sum | max | min | max2 | min2 | any | all | int | str | repr | abs | gcd | dict | lrange | trange
  deriving DecidableEq
/-- methods that change nothing -/
inductive Mt | get | index | count | join | split | bitlen
  deriving DecidableEq
inductive Tg | one (i : Nat) | tup (is : List Nat)
  deriving DecidableEq

mutual
inductive CE
  | var (i : Nat)
  | k (d : D)
  | glob (x : Str) (d : D)
  | bin (o : BOp) (a b : CE)
  | un (o : UOp) (a : CE)
  | land (a b : CE)
  | lor (a b : CE)
  | cmp (o : COp) (a b : CE)
  | chain (o o' : COp) (a b c : CE)
  | ite (c : CT) (a b : CE)
  | tst (c : CT)
  | tup (es : CEs)
  | lst (es : CEs)
  | dct (kvs : CEs)
  | lc (e : CE) (it : CI) (tg : Tg) (fs : CTs) (own : List Nat)
  | lc2 (e : CE) (it : CI) (i : Nat) (it2 : CI) (j : Nat) (own : List Nat)
  | dc (k v : CE) (it : CI) (tg : Tg) (fs : CTs) (own : List Nat)
  | sub (a i : CE)
  | slc (a : CE) (lo hi : CEs)
  | rev (a : CE)
  | call (f : Fn) (x : Str) (es : CEs) (perm : List Nat)
  | bi (b : Bi) (es : CEs)
  | meth (m : Mt) (o : CE) (es : CEs)
  | pop (i : Nat) (es : CEs)
  | isi (a : CE) (t : String)
inductive CEs
  | nil
  | cons (e : CE) (r : CEs)
inductive CT
  | val (e : CE)
  | not (c : CT)
  | and (a b : CT)
  | or (a b : CT)
inductive CTs
  | nil
  | cons (c : CT) (r : CTs)
inductive CI
  | seq (e : CE)
  | rng (es : CEs)
  | enum (e : CE)
  | zip (a b : CE)
  | items (e : CE)
  | vals (e : CE)
end

def CEs.length : CEs → Nat
  | .nil => 0
  | .cons _ r => r.length + 1

/-! ### operations on data -/
def truth : D → Bool
  | .none => false
  | .bool b => b
  | .int i => i != 0
  | .str s => s.length != 0
  | .list xs => !xs.isEmpty
  | .tuple xs => !xs.isEmpty
  | .dict kvs => !kvs.isEmpty

def SZ : Nat := 16777216
/-- truth, where it is told -/
def truthR : D → R Bool
  | .none => .ok false
  | .bool b => .ok b
  | .int i => .ok (i != 0)
  | .str s => if s.length ≤ SZ then .ok (s.length != 0) else .bad
  | .list xs => .ok (!xs.isEmpty)
  | .tuple xs => .ok (!xs.isEmpty)
  | .dict _ => .bad
/-- an answer that is new when it is a list or a dict -/
def fresh (d : D) : R (Bool × D) := .ok (true, d)
def plain (d : D) : R (Bool × D) := .ok (false, d)

def bitL (i : Int) : Nat := i.natAbs.log2

def bop : BOp → D → D → R (Bool × D)
  | .add, .int i, .int j => plain (.int (i + j))
  | .add, .str i, .str j => if i.length + j.length ≤ SZ then plain (.str (i ++ j)) else .bad
  | .add, .list xs, .list ys => if xs.length + ys.length ≤ SZ then fresh (.list (xs ++ ys)) else .bad
  | .add, .tuple xs, .tuple ys => if xs.length + ys.length ≤ SZ then plain (.tuple (xs ++ ys)) else .bad
  | .sub, .int i, .int j => plain (.int (i - j))
  | .mul, .int i, .int j => if (bitL i + bitL j < 1000000) then plain (.int (i * j)) else
      if (-(2 ^ 64) < i ∧ i < 2 ^ 64) ∨ (-(2 ^ 64) < j ∧ j < 2 ^ 64) then plain (.int (i * j)) else .bad
  | .mul, .list xs, .int k => if -(2 ^ 63) ≤ k ∧ k < 2 ^ 63 ∧ xs.length * k.toNat ≤ SZ then fresh (.list (List.replicate k.toNat xs).flatten) else .bad
  | .mul, .tuple xs, .int k => if xs ≠ [] ∧ 2 ≤ k ∧ k ≤ 1000 ∧ xs.length ≤ 1000 then plain (.tuple (List.replicate k.toNat xs).flatten) else .bad
  | .fdiv, .int i, .int j => if 0 < j ∧ j < 1073741824 then plain (.int (i / j)) else if 0 < j ∧ bitL j < 9000 then plain (.int (i / j)) else .bad
  | .mod, .int i, .int j => if 0 < j then plain (.int (i % j)) else .bad
  | .pow, .int i, .int j => if 0 ≤ j ∧ j ≤ 1000000 ∧ i.natAbs < 2 ^ 64 then plain (.int (i ^ j.toNat)) else .bad
  | .shl, .int i, .int j => if 0 ≤ j ∧ j ≤ 1000000 ∧ i.natAbs < 2 ^ 64 then plain (.int (i * 2 ^ j.toNat)) else .bad
  | .shr, .int i, .int j => if 0 ≤ j then plain (.int (i / 2 ^ j.toNat)) else .bad
  | .band, .int i, .int j => plain (.int (Builtin.bitAnd i j))
  | .bor, .int i, .int j => plain (.int (Builtin.bitOr i j))
  | _, _, _ => .bad

def uop : UOp → D → R D
  | .neg, .int i => .ok (.int (-i))
  | .inv, .int i => .ok (.int (Builtin.bitNot i))
  | _, _ => .bad

/-- keys: ints and texts, tuples of such -/
def keyOk : D → Bool
  | .int _ => true
  | .str _ => true
  | .tuple ds => ds.all fun d => match d with | .int _ => true | .str _ => true | _ => false
  | _ => false
def dget (kvs : List (D × D)) (k : D) : Option D := (kvs.find? fun p => PyData.eqv p.1 k).map (·.2)
def dput : List (D × D) → D → D → List (D × D)
  | [], k, v => [(k, v)]
  | (k', v') :: r, k, v => if PyData.eqv k' k then (k', v) :: r else (k', v') :: dput r k v

def seqOf : D → Option (List D)
  | .list xs => some xs
  | .tuple xs => some xs
  | _ => none

def isinD (x y : D) : R Bool := match y with
  | .list ys => if SeqAt.shaped x && SeqAt.shaped (.list ys) then .ok (ys.any fun z => PyData.eqv z x) else .bad
  | .tuple ys => if SeqAt.shaped x && SeqAt.shaped (.list ys) then .ok (ys.any fun z => PyData.eqv z x) else .bad
  | _ => .bad

def isD (x y : D) : R Bool := match x, y with
  | .none, .none => .ok true
  | .bool _, .none => .ok false
  | .int _, .none => .ok false
  | .str _, .none => .ok false
  | .list _, .none => .ok false
  | .tuple _, .none => .ok false
  | .dict _, .none => .ok false
  | .bool a, .bool b => .ok (a == b)
  | _, _ => .bad

def ordD (f : Int → Int → Bool) (g : D → D → Bool) (x y : D) : R Bool := match x, y with
  | .int i, .int j => .ok (f i j)
  | .tuple xs, .tuple ys => if PySem.W.alike (.tuple xs) (.tuple ys) && (SeqAt.shaped (.tuple xs) && SeqAt.shaped (.tuple ys)) then .ok (g (.tuple xs) (.tuple ys)) else .bad
  | _, _ => .bad

def cop : COp → D → D → R Bool
  | .lt, x, y => ordD (fun i j => decide (i < j)) (fun x y => PySem.W.dataLt x y) x y
  | .le, x, y => ordD (fun i j => decide (i ≤ j)) (fun x y => !PySem.W.dataLt y x) x y
  | .gt, x, y => ordD (fun i j => decide (j < i)) (fun x y => PySem.W.dataLt y x) x y
  | .ge, x, y => ordD (fun i j => decide (j ≤ i)) (fun x y => !PySem.W.dataLt x y) x y
  | .eq, x, y => if SeqAt.shaped x && SeqAt.shaped y then .ok (PyData.eqv x y) else .bad
  | .ne, x, y => if SeqAt.shaped x && SeqAt.shaped y then .ok (!PyData.eqv x y) else .bad
  | .isin, x, y => isinD x y
  | .notin, x, y => isinD x y >>= fun b => .ok (!b)
  | .is_, x, y => isD x y
  | .isnot, x, y => isD x y >>= fun b => .ok (!b)

/-! ### built-in functions -/
def allAlike (ds : List D) : Bool := ds.all fun x => ds.all fun y => PySem.W.alike x y
def depthOk (ds : List D) : Bool := decide (PyData.depthAll ds ≤ 60)
/-- what can be sorted here: ints or texts, or tuples that are not empty, place by place alike -/
def sortOk (ds : List D) : Bool := allAlike ds && depthOk ds && PyData.canLayAll0 ds && decide (ds.length ≤ SZ) &&
  ((ds.all fun d => match d with | .tuple (_ :: _) => true | _ => false) || ds.all fun d => match d with | .int _ => true | .str _ => true | _ => false)
def sortD (ds : List D) : List D := ds.mergeSort (PySem.W.dataLe false id)
/-- the first of like ones -/
def dedup : List D → List D
  | [] => []
  | d :: ds => d :: (dedup ds).filter fun x => !PyData.eqv d x
def intsOf? : List D → Option (List Int)
  | [] => some []
  | .int i :: r => (intsOf? r).map (i :: ·)
  | _ :: _ => none
def boolsOf? : List D → Option (List Bool)
  | [] => some []
  | .bool b :: r => (boolsOf? r).map (b :: ·)
  | _ :: _ => none
def keysOf (kvs : List (D × D)) : List D := kvs.map (·.1)
def rangeD (lo hi : Int) : List D := (List.range (hi - lo).toNat).map fun (i : Nat) => .int (lo + i)
noncomputable section
/-- (its instance is not to be looked into) -/
def smallI (i : Int) : Bool := @decide (-4611686018427387904 ≤ i ∧ i < 4611686018427387904) (Classical.propDecidable _)
theorem smallI_at {i : Int} (h : smallI i = true) : -4611686018427387904 ≤ i ∧ i < 4611686018427387904 := @of_decide_eq_true _ (Classical.propDecidable _) h
theorem smallI_of {i : Int} (h : -4611686018427387904 ≤ i ∧ i < 4611686018427387904) : smallI i = true := @decide_eq_true _ (Classical.propDecidable _) h
def itemsOf : D → R (List D)
  | .list xs => .ok xs
  | .tuple xs => .ok xs
  | _ => .bad

def reprOk (d : D) : Bool := d.showable && d.canLay0 && decide (d.depth ≤ 60) && decide (d.shown.length ≤ SZ)
/-- tuples of ints -/
def tupsOf? : List D → Option (List (List Int))
  | [] => some []
  | .tuple ds :: r => match intsOf? ds, tupsOf? r with
    | some ns, some nss => some (ns :: nss)
    | _, _ => none
  | _ :: _ => none
/-- unlike ones -/
def ddI : List (List Int) → List (List Int)
  | [] => []
  | x :: xs => if xs.contains x then ddI xs else x :: ddI xs
def bi : Bi → List D → R (Bool × D)
  | .len, [.list xs] => plain (.int xs.length)
  | .len, [.tuple xs] => plain (.int xs.length)
  | .len, [.str x] => if x.length ≤ SZ then plain (.int x.length) else .bad
  | .tuple, [.list xs] => plain (.tuple xs)
  | .tuple, [.tuple xs] => plain (.tuple xs)
  | .list, [.list xs] => fresh (.list xs)
  | .list, [.tuple xs] => fresh (.list xs)
  | .sorted, [.list xs] => if sortOk xs then fresh (.list (sortD xs)) else .bad
  | .sum, [.list xs] => match intsOf? xs with | some ns => plain (.int ns.sum) | none => .bad
  | .max, [.list xs] => match intsOf? xs with | some (n :: ns) => plain (.int (ns.foldl max n)) | _ => .bad
  | .min, [.list xs] => match intsOf? xs with | some (n :: ns) => plain (.int (ns.foldl min n)) | _ => .bad
  | .max2, [.int i, .int j] => plain (.int (if j > i then j else i))
  | .min2, [.int i, .int j] => plain (.int (if j < i then j else i))
  | .any, [.list xs] => match boolsOf? xs with | some bs => plain (.bool (bs.any id)) | none => .bad
  | .all, [.list xs] => match boolsOf? xs with | some bs => plain (.bool (bs.all id)) | none => .bad
  | .int, [.int i] => plain (.int i)
  | .int, [.bool b] => plain (.int (if b then 1 else 0))
  | .repr, [d] => if reprOk d then plain (.str d.shown) else .bad
  | .lenset, [.tuple xs] => match tupsOf? xs with | some nss => if nss.length < 64 then plain (.int (ddI nss).length) else .bad | none => .bad
  | .abs, [.int i] => plain (.int (if i < 0 then -i else i))
  | .lrange, [.int n] => if decide (n ≤ SZ) && smallI n then fresh (.list (rangeD 0 n)) else .bad
  | .lrange, [.int a, .int b] => if decide (b - a ≤ SZ) && smallI a && smallI b then fresh (.list (rangeD a b)) else .bad
  | .trange, [.int n] => if decide (n ≤ SZ) && smallI n then plain (.tuple (rangeD 0 n)) else .bad
  | .trange, [.int a, .int b] => if decide (b - a ≤ SZ) && smallI a && smallI b then plain (.tuple (rangeD a b)) else .bad
  | _, _ => .bad

def ixD (n : Nat) (i : Int) : Option Nat := if 0 ≤ i then (if i < n then some i.toNat else none) else if -(n : Int) ≤ i then some (i + n).toNat else none
def subD : D → D → R D
  | .list xs, .int i => match (ixD xs.length i).bind (xs[·]?) with | some d => .ok d | none => .bad
  | .tuple xs, .int i => match (ixD xs.length i).bind (xs[·]?) with | some d => .ok d | none => .bad
  | _, _ => .bad
def cutD (xs : List D) (lo hi : Option Int) : List D := (xs.drop (HT.sIx xs.length 0 lo)).take (HT.sIx xs.length xs.length hi - HT.sIx xs.length 0 lo)
def slcD : D → Option Int → Option Int → R (Bool × D)
  | .list xs, lo, hi => fresh (.list (cutD xs lo hi))
  | .tuple xs, lo, hi => plain (.tuple (cutD xs lo hi))
  | _, _, _ => .bad
def revD : D → R (Bool × D)
  | .list xs => fresh (.list xs.reverse)
  | .tuple xs => plain (.tuple xs.reverse)
  | _ => .bad

def bitlen (i : Int) : Int := if i = 0 then 0 else (i.natAbs.log2 : Int) + 1
def meth : Mt → D → List D → R D
  | .bitlen, .int i, [] => .ok (.int (bitlen i))
  | .count, .list xs, [k] => match intsOf? xs, k with | some ns, .int k => .ok (.int (ns.count k)) | _, _ => .bad
  | _, _, _ => .bad

/-! ### isinstance -/
def tyName : D → String
  | .none => "NoneType"
  | .bool _ => "bool"
  | .int _ => "int"
  | .str _ => "str"
  | .list _ => "list"
  | .tuple _ => "tuple"
  | .dict _ => "dict"
def isT (d : D) (t : String) : Bool := tyName d == t || (tyName d == "bool" && t == "int")

/-! ### slots -/
def slotD (r : Env) (i : Nat) : R D := match r[i]? with
  | some (some (_, d)) => .ok d
  | _ => .bad
/-- a slot read as a value: what it alone held is shared from now on -/
def share (r : Env) (i : Nat) : R (D × Env) := match r[i]? with
  | some (some (_, d)) => .ok (d, r.set i (some (false, d)))
  | _ => .bad
def ownD (r : Env) (i : Nat) : R D := match r[i]? with
  | some (some (true, d)) => .ok d
  | _ => .bad
/-- the slot alone holds a list -/
def isOwnL (r : Env) (i : Nat) : R Unit := match r[i]? with
  | some (some (true, .list _)) => .ok ()
  | _ => .bad
def wipeF (own : List Nat) : Nat → Env → Env
  | _, [] => []
  | i, x :: r => (if own.contains i then none else x) :: wipeF own (i + 1) r
/-- the slots of a comprehension's own names forgotten -/
def wipeE (own : List Nat) (r : Env) : Env := wipeF own 0 r
def backF (own : List Nat) : Nat → Env → Env → Env
  | i, x0 :: r0, x :: r => (if own.contains i then x0 else x) :: backF own (i + 1) r0 r
  | _, _, r => r
/-- .. as they were -/
def backE (own : List Nat) (r0 r : Env) : Env := backF own 0 r0 r
def ownOk (own : List Nat) (r : Env) : Bool := own.all fun i => match r[i]? with
  | some (some (true, _)) => false
  | _ => true
def bindT (r : Env) : Tg → D → R Env
  | .one i, d => .ok (r.set i (some (false, d)))
  | .tup is, d => match d with
    | .tuple ds => if ds.length = is.length then .ok ((is.zip ds).foldl (fun r p => r.set p.1 (some (false, p.2))) r) else .bad
    | _ => .bad

/-- an operand: a slot (looked at when all operands are there), or a value -/
def opnd (e : CE) (f : Env → R (Bool × D × Env)) (r : Env) : R ((Nat ⊕ D) × Env) := match e with
  | .var i => slotD r i >>= fun _ => .ok (.inl i, r)
  | _ => f r >>= fun x => .ok (.inr x.2.1, x.2.2)
/-- what a call may change: a slot -/
def ioOp (e : CE) (r : Env) : R ((Nat ⊕ D) × Env) := match e with
  | .var i => slotD r i >>= fun _ => .ok (.inl i, r)
  | _ => .bad
def look (r : Env) : Nat ⊕ D → R D
  | .inl i => slotD r i
  | .inr d => .ok d
def looks (r : Env) : List (Nat ⊕ D) → R (List D)
  | [] => .ok []
  | x :: xs => look r x >>= fun d => looks r xs >>= fun ds => .ok (d :: ds)
/-- the arguments of a call of a def: what it may change stays a slot -/
def permL {α : Type} (perm : List Nat) (xs : List α) : List α := if perm.isEmpty then xs else perm.filterMap (xs[·]?)
def argFlags (f : Fn) (perm : List Nat) : List Bool := if perm.isEmpty then f.io else perm.map fun _ => false
/-- the slots among them are different ones -/
def slotsApart : List (Nat ⊕ D) → Bool
  | [] => true
  | .inl i :: xs => (xs.all fun x => match x with | .inl j => i != j | .inr _ => true) && slotsApart xs
  | .inr _ :: xs => slotsApart xs
def argIn (r : Env) : Bool → Nat ⊕ D → R D
  | true, .inl i => ownD r i
  | false, .inr d => .ok d
  | _, _ => .bad
def argsIn (r : Env) : List Bool → List (Nat ⊕ D) → R (List D)
  | [], [] => .ok []
  | b :: bs, x :: xs => argIn r b x >>= fun d => argsIn r bs xs >>= fun ds => .ok (d :: ds)
  | _, _ => .bad
def argsOut (r : Env) : List (Nat ⊕ D) → List D → R Env
  | .inl i :: xs, o :: os => argsOut (r.set i (some (true, o))) xs os
  | .inl _ :: _, [] => .bad
  | .inr _ :: xs, os => argsOut r xs os
  | [], [] => .ok r
  | [], _ :: _ => .bad

/-! ### loops -/
def zipD (xs ys : List D) : List D := (xs.zip ys).map fun p => .tuple [p.1, p.2]
def enumD : Nat → List D → List D
  | _, [] => []
  | i, d :: ds => .tuple [.int (i : Nat), d] :: enumD (i + 1) ds
/-- one item of a comprehension -/
def lcStep (own : List Nat) (bind : D → Env → R Env) (test : Env → R (Bool × Env)) (elt : Env → R (Bool × D × Env)) (d : D) (x : List D × Env) : R (List D × Env) :=
  bind d x.2 >>= fun r1 => test r1 >>= fun t => if t.1 then elt t.2 >>= fun y => if x.1.length < SZ then .ok (x.1 ++ [y.2.1], wipeE own y.2.2) else .bad else .ok (x.1, wipeE own t.2)
def foldR {α : Type} (f : D → α → R α) : List D → α → R α
  | [], x => .ok x
  | d :: ds, x => f d x >>= foldR f ds

mutual
def evE : CE → Env → R (Bool × D × Env)
  | .var i, r => share r i >>= fun x => .ok (false, x.1, x.2)
  | .k d, r => .ok (false, d, r)
  | .glob _ d, r => .ok (false, d, r)
  | .bin o a b, r => opnd a (evE a) r >>= fun x => opnd b (evE b) x.2 >>= fun y => look y.2 x.1 >>= fun u => look y.2 y.1 >>= fun v => bop o u v >>= fun z => .ok (z.1, z.2, y.2)
  | .un o a, r => opnd a (evE a) r >>= fun x => look x.2 x.1 >>= fun u => uop o u >>= fun z => .ok (false, z, x.2)
  | .land a b, r => evE a r >>= fun x => truthR x.2.1 >>= fun t => if t then evE b x.2.2 else .ok (false, x.2.1, x.2.2)
  | .lor a b, r => evE a r >>= fun x => truthR x.2.1 >>= fun t => if t then .ok (false, x.2.1, x.2.2) else evE b x.2.2
  | .cmp o a b, r => opnd a (evE a) r >>= fun x => opnd b (evE b) x.2 >>= fun y => look y.2 x.1 >>= fun u => look y.2 y.1 >>= fun v => cop o u v >>= fun z => .ok (false, .bool z, y.2)
  | .chain o o' a b c, r => opnd a (evE a) r >>= fun x => opnd b (evE b) x.2 >>= fun y => look y.2 x.1 >>= fun u => look y.2 y.1 >>= fun v => cop o u v >>= fun z =>
      if z then opnd c (evE c) y.2 >>= fun q => look q.2 y.1 >>= fun v' => look q.2 q.1 >>= fun w => cop o' v' w >>= fun z' => .ok (false, .bool z', q.2) else .ok (false, .bool false, y.2)
  | .ite c a b, r => evT c r >>= fun t => if t.1 then evE a t.2 else evE b t.2
  | .tst c, r => evT c r >>= fun t => .ok (false, .bool t.1, t.2)
  | .tup es, r => evEs es r >>= fun x => .ok (false, .tuple x.1, x.2)
  | .lst es, r => evEs es r >>= fun x => .ok (true, .list x.1, x.2)
  | .dct _, _ => .bad
  | .lc e it tg fs own, r => evI it r >>= fun x => if ownOk own x.2 then foldR (lcStep own (fun d r => bindT r tg d) (evTs fs) (evE e)) x.1 ([], wipeE own x.2) >>= fun y => .ok (true, .list y.1, backE own x.2 y.2) else .bad
  | .lc2 _ _ _ _ _ _, _ => .bad
  | .dc _ _ _ _ _ _, _ => .bad
  | .sub a i, r => opnd a (evE a) r >>= fun x => opnd i (evE i) x.2 >>= fun y => look y.2 x.1 >>= fun u => look y.2 y.1 >>= fun v => subD u v >>= fun z => .ok (false, z, y.2)
  | .slc a lo hi, r => opnd a (evE a) r >>= fun x => evO lo x.2 >>= fun l => evO hi l.2 >>= fun h => look h.2 x.1 >>= fun u => slcD u l.1 h.1 >>= fun z => .ok (z.1, z.2, h.2)
  | .rev a, r => opnd a (evE a) r >>= fun x => look x.2 x.1 >>= fun u => revD u >>= fun z => .ok (z.1, z.2, x.2)
  | .call f _ es perm, r => evAs (argFlags f perm) es r >>= fun x => if slotsApart x.1 then
      argsIn x.2 f.io (permL perm x.1) >>= fun ds => match f.den ds with
        | .ok fr d outs => argsOut x.2 x.1 outs >>= fun r' => .ok (fr, d, r')
        | .err c fs => .err c fs x.2
        | .bad => .bad
      else .bad
  | .bi b es, r => evOs es r >>= fun x => looks x.2 x.1 >>= fun ds => bi b ds >>= fun z => .ok (z.1, z.2, x.2)
  | .meth m o es, r => opnd o (evE o) r >>= fun y => evOs es y.2 >>= fun x => look x.2 y.1 >>= fun u => looks x.2 x.1 >>= fun ds => meth m u ds >>= fun z => .ok (false, z, x.2)
  | .pop i es, r => isOwnL r i >>= fun _ => evOs es r >>= fun x => looks x.2 x.1 >>= fun ds => ownD x.2 i >>= fun u => match u, ds with
      | .list xs, [] => (match xs.getLast? with | some y => .ok (false, y, x.2.set i (some (true, .list xs.dropLast))) | none => .bad)
      | .list xs, [.int k] => if !smallI k then .bad else (match ixD xs.length k with | some j => (match xs[j]? with | some y => .ok (false, y, x.2.set i (some (true, .list (xs.eraseIdx j)))) | none => .bad) | none => .bad)
      | _, _ => .bad
  | .isi a t, r => opnd a (evE a) r >>= fun x => look x.2 x.1 >>= fun u => match u with | .dict _ => .bad | u => .ok (false, .bool (isT u t), x.2)
def evEs : CEs → Env → R (List D × Env)
  | .nil, r => .ok ([], r)
  | .cons e es, r => evE e r >>= fun x => evEs es x.2.2 >>= fun y => .ok (x.2.1 :: y.1, y.2)
def evFs : CEs → Env → R (List (Bool × D) × Env)
  | .nil, r => .ok ([], r)
  | .cons e es, r => evE e r >>= fun x => evFs es x.2.2 >>= fun y => .ok ((x.1, x.2.1) :: y.1, y.2)
def evOs : CEs → Env → R (List (Nat ⊕ D) × Env)
  | .nil, r => .ok ([], r)
  | .cons e es, r => opnd e (evE e) r >>= fun x => evOs es x.2 >>= fun y => .ok (x.1 :: y.1, y.2)
def evAs : List Bool → CEs → Env → R (List (Nat ⊕ D) × Env)
  | _, .nil, r => .ok ([], r)
  | [], .cons _ _, _ => .bad
  | b :: bs, .cons e es, r => (if b then ioOp e r else evE e r >>= fun x => .ok (.inr x.2.1, x.2.2)) >>= fun x => evAs bs es x.2 >>= fun y => .ok (x.1 :: y.1, y.2)
def evO : CEs → Env → R (Option Int × Env)
  | .nil, r => .ok (none, r)
  | .cons e _, r => opnd e (evE e) r >>= fun x => look x.2 x.1 >>= fun u => match u with | .int i => .ok (some i, x.2) | _ => .bad
def evT : CT → Env → R (Bool × Env)
  | .val e, r => opnd e (evE e) r >>= fun x => look x.2 x.1 >>= fun u => truthR u >>= fun t => .ok (t, x.2)
  | .not c, r => evT c r >>= fun t => .ok (!t.1, t.2)
  | .and a b, r => evT a r >>= fun t => if t.1 then evT b t.2 else .ok (false, t.2)
  | .or a b, r => evT a r >>= fun t => if t.1 then .ok (true, t.2) else evT b t.2
def evTs : CTs → Env → R (Bool × Env)
  | .nil, r => .ok (true, r)
  | .cons c cs, r => evT c r >>= fun t => if t.1 then evTs cs t.2 else .ok (false, t.2)
def evI : CI → Env → R (List D × Env)
  | .seq e, r => evE e r >>= fun x => itemsOf x.2.1 >>= fun ds => .ok (ds, x.2.2)
  | .rng es, r => evOs es r >>= fun x => looks x.2 x.1 >>= fun ds => match ds with
      | [.int n] => if smallI n then .ok (rangeD 0 n, x.2) else .bad
      | [.int a, .int b] => if smallI a && smallI b then .ok (rangeD a b, x.2) else .bad
      | [.int a, .int b, .int c] => if smallI a && smallI b && decide (c = -1) then .ok ((List.range (a - b).toNat).map (fun (i : Nat) => .int (a - i)), x.2) else .bad
      | _ => .bad
  | .enum e, r => evE e r >>= fun x => match x.2.1 with | .list ds => .ok (enumD 0 ds, x.2.2) | _ => .bad
  | .zip a b, r => evE a r >>= fun x => evE b x.2.2 >>= fun y => match x.2.1, y.2.1 with
      | .list xs, .list ys => .ok (zipD xs ys, y.2.2)
      | .tuple xs, .tuple ys => .ok (zipD xs ys, y.2.2)
      | _, _ => .bad
  | .items _, _ => .bad
  | .vals _, _ => .bad
end

/-! ### statements -/
inductive Fl | next | brk | cont | ret (fr : Bool) (d : D)
inductive CS
  | set (i : Nat) (e : CE)
  | setT (is : List Nat) (e : CE)
  | par (is : List Nat) (es : CEs)
  | put (i : Nat) (k e : CE)
  | aug (i : Nat) (o : BOp) (e : CE)
  | ifs (c : CT) (a b : List CS)
  | for_ (tg : Tg) (it : CI) (b : List CS)
  | whl (c : CT) (b : List CS)
  | ret (e : CE)
  | expr (e : CE)
  | app (i : Nat) (e : CE)
  | ext (i : Nat) (e : CE)
  | raise (c : Str)
  | brk | cont | pass

def isMut : D → Bool
  | .list _ => true
  | .dict _ => true
  | _ => false
def setE (r : Env) (i : Nat) (fr : Bool) (d : D) : Env := r.set i (some (fr && isMut d, d))

def forL (step : D → Env → R (Fl × Env)) : List D → Env → R (Fl × Env)
  | [], r => .ok (.next, r)
  | d :: ds, r => step d r >>= fun x => match x.1 with
    | .next => forL step ds x.2
    | .cont => forL step ds x.2
    | .brk => .ok (.next, x.2)
    | .ret fr d => .ok (.ret fr d, x.2)
def whN (c : Env → R (Bool × Env)) (b : Env → R (Fl × Env)) : Nat → Env → R (Fl × Env)
  | 0, _ => .bad
  | n + 1, r => c r >>= fun t => if t.1 then b t.2 >>= fun x => (match x.1 with
      | .next => whN c b n x.2
      | .cont => whN c b n x.2
      | .brk => .ok (.next, x.2)
      | .ret fr d => .ok (.ret fr d, x.2)) else .ok (.next, t.2)
open Classical in
noncomputable def whR (c : Env → R (Bool × Env)) (b : Env → R (Fl × Env)) (r : Env) : R (Fl × Env) :=
  if h : ∃ n, whN c b n r ≠ .bad then whN c b h.choose r else .bad

mutual
noncomputable def exS : CS → Env → R (Fl × Env)
  | .set i e, r => evE e r >>= fun x => .ok (.next, setE x.2.2 i x.1 x.2.1)
  | .setT is e, r => evE e r >>= fun x => bindT x.2.2 (.tup is) x.2.1 >>= fun r' => .ok (.next, r')
  | .par is es, r => evFs es r >>= fun x => if x.1.length = is.length then .ok (.next, (is.zip x.1).foldl (fun r p => setE r p.1 p.2.1 p.2.2) x.2) else .bad
  | .put i k e, r => evE e r >>= fun x => isOwnL x.2.2 i >>= fun _ => opnd k (evE k) x.2.2 >>= fun y => look y.2 y.1 >>= fun kd => ownD y.2 i >>= fun u => match u with
      | .list xs => (match kd with | .int j => (match ixD xs.length j with | some j => .ok (.next, y.2.set i (some (true, .list (xs.set j x.2.1)))) | none => .bad) | _ => .bad)
      | _ => .bad
  | .aug i o e, r => slotD r i >>= fun _ => opnd e (evE e) r >>= fun y => look y.2 y.1 >>= fun v => slotD y.2 i >>= fun u => match u, v with
      | .int n, .int m => bop o (.int n) (.int m) >>= fun z => .ok (.next, y.2.set i (some (false, z.2)))
      | _, _ => .bad
  | .ifs c a b, r => evT c r >>= fun t => if t.1 then exSs a t.2 else exSs b t.2
  | .for_ tg it b, r => evI it r >>= fun x => forL (fun d r => bindT r tg d >>= fun r1 => exSs b r1) x.1 x.2
  | .whl c b, r => whR (evT c) (exSs b) r
  | .ret e, r => (match e with
      | .var i => (match r[i]? with | some (some (fr, d)) => .ok (.ret fr d, r.set i none) | _ => .bad)
      | _ => evE e r >>= fun x => .ok (.ret x.1 x.2.1, x.2.2))
  | .expr e, r => evE e r >>= fun x => .ok (.next, x.2.2)
  | .app i e, r => isOwnL r i >>= fun _ => evE e r >>= fun x => ownD x.2.2 i >>= fun u => match u with
      | .list xs => if xs.length < SZ then .ok (.next, x.2.2.set i (some (true, .list (xs ++ [x.2.1])))) else .bad
      | _ => .bad
  | .ext i e, r => isOwnL r i >>= fun _ => opnd e (evE e) r >>= fun y => look y.2 y.1 >>= fun v => ownD y.2 i >>= fun u => match u, v with
      | .list xs, .list ys => if xs.length + ys.length ≤ SZ then .ok (.next, y.2.set i (some (true, .list (xs ++ ys)))) else .bad
      | _, _ => .bad
  | .raise c, r => .err c [] r
  | .brk, r => .ok (.brk, r)
  | .cont, r => .ok (.cont, r)
  | .pass, r => .ok (.next, r)
noncomputable def exSs : List CS → Env → R (Fl × Env)
  | [], r => .ok (.next, r)
  | s :: ss, r => exS s r >>= fun x => match x.1 with
    | .next => exSs ss x.2
    | _ => .ok x
end

/-- what the parameters that may be changed hold at the end -/
def outsOf (r : Env) : List Bool → Nat → R (List D)
  | [], _ => .ok []
  | true :: bs, i => ownD r i >>= fun d => outsOf r bs (i + 1) >>= fun ds => .ok (d :: ds)
  | false :: bs, i => outsOf r bs (i + 1)
/-- a def: its parameters in the first slots, n slots in all -/
noncomputable def mkFn (io : List Bool) (n : Nat) (body : List CS) : Fn where
  io := io
  den := fun ds => if ds.length = io.length then
      match exSs body (io.zip ds |>.map some |>.append (List.replicate (n - io.length) none)) with
      | .ok (.ret fr d, r) => (match outsOf r io 0 with | .ok outs => .ok fr d outs | _ => .bad)
      | .ok (.next, r) => (match outsOf r io 0 with | .ok outs => .ok false .none outs | _ => .bad)
      | .ok _ => .bad
      | .err c fs _ => .err c fs
      | .bad => .bad
    else .bad
end
end Pv

end
section
/-! What stands for data in the heap; who may change it. -/
namespace Pv
open PySem PySem.Spec L2

def kD : Key → D
  | .inl i => .int i
  | .inr x => .str x

mutual
/-- the value stands for the data -/
inductive Dr (K : PySem.W.Frag) (H : Hp) : V → D → Prop
  | non : Dr K H .non .none
  | bl (b : Bool) : Dr K H (.bl b) (.bool b)
  | int (i : Int) : Dr K H (.int i) (.int i)
  | str (x : Str) : Dr K H (.str x) (.str x)
  | lst {a : Addr} {xs : List V} {ds : List D} : Rd H a (.lst xs) → DrA K H xs ds → Dr K H (.ref a) (.list ds)
  | tup {a : Addr} {xs : List V} {ds : List D} : SqT K H a xs → DrA K H xs ds → Dr K H (.ref a) (.tuple ds)
  | dK {a : Addr} {m : List (Key × V)} {ds : List (D × D)} : Rd H a (.dK m) → DrK K H m ds → Dr K H (.ref a) (.dict ds)
  | dT {a : Addr} {m : List (List Key × V)} {ds : List (D × D)} : Rd H a (.dT m) → DrT K H m ds → Dr K H (.ref a) (.dict ds)
inductive DrA (K : PySem.W.Frag) (H : Hp) : List V → List D → Prop
  | nil : DrA K H [] []
  | cons {v : V} {vs : List V} {d : D} {ds : List D} : Dr K H v d → DrA K H vs ds → DrA K H (v :: vs) (d :: ds)
inductive DrK (K : PySem.W.Frag) (H : Hp) : List (Key × V) → List (D × D) → Prop
  | nil : DrK K H [] []
  | cons {k : Key} {v : V} {m : List (Key × V)} {d : D} {ds : List (D × D)} : Dr K H v d → DrK K H m ds → DrK K H ((k, v) :: m) ((kD k, d) :: ds)
inductive DrT (K : PySem.W.Frag) (H : Hp) : List (List Key × V) → List (D × D) → Prop
  | nil : DrT K H [] []
  | cons {k : List Key} {v : V} {m : List (List Key × V)} {d : D} {ds : List (D × D)} : Dr K H v d → DrT K H m ds → DrT K H ((k, v) :: m) ((.tuple (k.map kD), d) :: ds)
end

/-! ### a greater heap -/
def Lt (H H' : Hp) : Prop := ∀ a o, H a = some o → H' a = some o
theorem Lt.refl (H : Hp) : Lt H H := fun _ _ h => h
theorem Lt.trans {H1 H2 H3 : Hp} (a : Lt H1 H2) (b : Lt H2 H3) : Lt H1 H3 := fun c o h => b c o (a c o h)
theorem Lt.rd {H H' : Hp} (l : Lt H H') {a : Addr} {u : HO} (r : Rd H a u) : Rd H' a u := by
  rcases r with r | ⟨o, r⟩
  · exact .inl (l _ _ r)
  · exact .inr ⟨o, l _ _ r⟩
section
variable {K : PySem.W.Frag} {H H' : Hp}
theorem Lt.sql (l : Lt H H') {a : Addr} {xs : List V} (h : SqL K H a xs) : SqL K H' a xs := h.imp l.rd id
theorem Lt.sqt (l : Lt H H') {a : Addr} {xs : List V} (h : SqT K H a xs) : SqT K H' a xs := h.imp l.rd id
mutual
theorem Dr.mono (l : Lt H H') : ∀ {v : V} {d : D}, Dr K H v d → Dr K H' v d
  | _, _, .non => .non
  | _, _, .bl b => .bl b
  | _, _, .int i => .int i
  | _, _, .str x => .str x
  | _, _, .lst h1 h2 => .lst (l.rd h1) (DrA.mono l h2)
  | _, _, .tup h1 h2 => .tup (l.sqt h1) (DrA.mono l h2)
  | _, _, .dK h1 h2 => .dK (l.rd h1) (DrK.mono l h2)
  | _, _, .dT h1 h2 => .dT (l.rd h1) (DrT.mono l h2)
theorem DrA.mono (l : Lt H H') : ∀ {v : List V} {d : List D}, DrA K H v d → DrA K H' v d
  | _, _, .nil => .nil
  | _, _, .cons h1 h2 => .cons (Dr.mono l h1) (DrA.mono l h2)
theorem DrK.mono (l : Lt H H') : ∀ {v : List (Key × V)} {d : List (D × D)}, DrK K H v d → DrK K H' v d
  | _, _, .nil => .nil
  | _, _, .cons h1 h2 => .cons (Dr.mono l h1) (DrK.mono l h2)
theorem DrT.mono (l : Lt H H') : ∀ {v : List (List Key × V)} {d : List (D × D)}, DrT K H v d → DrT K H' v d
  | _, _, .nil => .nil
  | _, _, .cons h1 h2 => .cons (Dr.mono l h1) (DrT.mono l h2)
end
theorem DrA.length : ∀ {xs : List V} {ds : List D}, DrA K H xs ds → xs.length = ds.length
  | _, _, .nil => rfl
  | _, _, .cons _ t => congrArg (· + 1) (DrA.length t)
theorem DrA.app : ∀ {xs ys : List V} {ds es : List D}, DrA K H xs ds → DrA K H ys es → DrA K H (xs ++ ys) (ds ++ es)
  | _, _, _, _, .nil, s => s
  | _, _, _, _, .cons h t, s => .cons h (DrA.app t s)
theorem DrA.one {v : V} {d : D} (h : Dr K H v d) : DrA K H [v] [d] := .cons h .nil
theorem DrA.getR : ∀ {xs : List V} {ds : List D} {i : Nat} {d : D}, DrA K H xs ds → ds[i]? = some d → ∃ v, xs[i]? = some v ∧ Dr K H v d
  | _, _, _, _, .nil, e => by simp at e
  | _, _, 0, _, .cons h _, e => by simp at e; subst e; exact ⟨_, rfl, h⟩
  | _, _, i + 1, _, .cons _ t, e => by
    obtain ⟨v, h1, h2⟩ := DrA.getR (i := i) t (by simpa using e)
    exact ⟨v, by simpa using h1, h2⟩
theorem DrA.getL : ∀ {xs : List V} {ds : List D} {i : Nat} {v : V}, DrA K H xs ds → xs[i]? = some v → ∃ d, ds[i]? = some d ∧ Dr K H v d
  | _, _, _, _, .nil, e => by simp at e
  | _, _, 0, _, .cons h _, e => by simp at e; subst e; exact ⟨_, rfl, h⟩
  | _, _, i + 1, _, .cons _ t, e => by
    obtain ⟨v, h1, h2⟩ := DrA.getL (i := i) t (by simpa using e)
    exact ⟨v, by simpa using h1, h2⟩
theorem DrA.take : ∀ {xs : List V} {ds : List D} (n : Nat), DrA K H xs ds → DrA K H (xs.take n) (ds.take n)
  | _, _, 0, _ => .nil
  | _, _, _ + 1, .nil => .nil
  | _, _, n + 1, .cons h t => .cons h (DrA.take n t)
theorem DrA.drop : ∀ {xs : List V} {ds : List D} (n : Nat), DrA K H xs ds → DrA K H (xs.drop n) (ds.drop n)
  | _, _, 0, r => r
  | _, _, _ + 1, .nil => .nil
  | _, _, n + 1, .cons _ t => DrA.drop n t
theorem DrA.set : ∀ {xs : List V} {ds : List D} {v : V} {d : D} (i : Nat), Dr K H v d → DrA K H xs ds → DrA K H (xs.set i v) (ds.set i d)
  | _, _, _, _, _, _, .nil => .nil
  | _, _, _, _, 0, h, .cons _ t => .cons h t
  | _, _, _, _, i + 1, h, .cons g t => .cons g (DrA.set i h t)
theorem DrA.erase : ∀ {xs : List V} {ds : List D} (i : Nat), DrA K H xs ds → DrA K H (xs.eraseIdx i) (ds.eraseIdx i)
  | _, _, _, .nil => .nil
  | _, _, 0, .cons _ t => t
  | _, _, i + 1, .cons g t => .cons g (DrA.erase i t)
theorem DrA.reps {xs : List V} {ds : List D} (h : DrA K H xs ds) : ∀ n : Nat, DrA K H (List.replicate n xs).flatten (List.replicate n ds).flatten
  | 0 => .nil
  | n + 1 => by
    rw [List.replicate_succ, List.replicate_succ, List.flatten_cons, List.flatten_cons]
    exact h.app (DrA.reps h n)
theorem DrA.rev : ∀ {xs : List V} {ds : List D}, DrA K H xs ds → DrA K H xs.reverse ds.reverse
  | _, _, .nil => .nil
  | _, _, .cons h t => by
    rw [List.reverse_cons, List.reverse_cons]
    exact (DrA.rev t).app (.one h)
theorem DrA.ints : ∀ {xs : List V} {ds : List D} {ns : List Int}, DrA K H xs ds → intsOf? ds = some ns → xs = ns.map V.int
  | _, _, _, .nil, e => by
    cases e
    rfl
  | _, .int i :: ds, _, .cons h t, e => by
    cases h
    unfold intsOf? at e
    cases q : intsOf? ds with
    | none => rw [q] at e; cases e
    | some ms =>
      rw [q] at e
      cases e
      rw [List.map_cons, DrA.ints t q]
  | _, .none :: _, _, .cons _ _, e => by cases e
  | _, .bool _ :: _, _, .cons _ _, e => by cases e
  | _, .str _ :: _, _, .cons _ _, e => by cases e
  | _, .list _ :: _, _, .cons _ _, e => by cases e
  | _, .tuple _ :: _, _, .cons _ _, e => by cases e
  | _, .dict _ :: _, _, .cons _ _, e => by cases e
theorem DrA.bools : ∀ {xs : List V} {ds : List D} {ns : List Bool}, DrA K H xs ds → boolsOf? ds = some ns → xs = ns.map V.bl
  | _, _, _, .nil, e => by
    cases e
    rfl
  | _, .bool i :: ds, _, .cons h t, e => by
    cases h
    unfold boolsOf? at e
    cases q : boolsOf? ds with
    | none => rw [q] at e; cases e
    | some ms =>
      rw [q] at e
      cases e
      rw [List.map_cons, DrA.bools t q]
  | _, .none :: _, _, .cons _ _, e => by cases e
  | _, .int _ :: _, _, .cons _ _, e => by cases e
  | _, .str _ :: _, _, .cons _ _, e => by cases e
  | _, .list _ :: _, _, .cons _ _, e => by cases e
  | _, .tuple _ :: _, _, .cons _ _, e => by cases e
  | _, .dict _ :: _, _, .cons _ _, e => by cases e
theorem DrA.ofInts : ∀ (ns : List Int), DrA K H (ns.map V.int) (ns.map PyData.int)
  | [] => .nil
  | i :: r => .cons (.int i) (DrA.ofInts r)
end

/-! ### masks: addresses that may be changed, or that are kept for someone -/
abbrev Mk := Addr → Bool
def msk (M : Mk) (H : Hp) : Hp := fun a => if M a = true then none else H a
def Mk.add (M : Mk) (p : Addr) : Mk := fun a => decide (a = p) || M a
def Mk.del (M : Mk) (p : Addr) : Mk := fun a => !decide (a = p) && M a
theorem Mk.add_same {M : Mk} {p : Addr} : M.add p p = true := by simp [Mk.add]
theorem Mk.add_ne {M : Mk} {p a : Addr} (h : a ≠ p) : M.add p a = M a := by simp [Mk.add, h]
theorem Mk.add_of {M : Mk} {p a : Addr} (h : M a = true) : M.add p a = true := by simp [Mk.add, h]
theorem Mk.del_same {M : Mk} {p : Addr} : M.del p p = false := by simp [Mk.del]
theorem Mk.del_ne {M : Mk} {p a : Addr} (h : a ≠ p) : M.del p a = M a := by simp [Mk.del, h]
theorem Mk.of_del {M : Mk} {p a : Addr} (h : M.del p a = true) : a ≠ p ∧ M a = true := by simpa [Mk.del] using h
theorem msk_some {M : Mk} {H : Hp} {a : Addr} {o : HO} : msk M H a = some o ↔ M a = false ∧ H a = some o := by
  unfold msk
  cases M a <;> simp
theorem msk_lt (M : Mk) (H : Hp) : Lt (msk M H) H := fun _ _ h => (msk_some.mp h).2
theorem msk_mono {M M' : Mk} {H H' : Hp} (h : ∀ a o, M a = false → H a = some o → M' a = false ∧ H' a = some o) : Lt (msk M H) (msk M' H') := fun a o e => by
  obtain ⟨e1, e2⟩ := msk_some.mp e
  exact msk_some.mpr (h a o e1 e2)

/-- the list or dict at a, its items away from the mask -/
def Top (K : PySem.W.Frag) (M : Mk) (H : Hp) (a : Addr) : D → Prop
  | .list ds => ∃ xs, H a = some (.lst xs) ∧ DrA K (msk M H) xs ds
  | .dict ds => (∃ m, H a = some (.dK m) ∧ DrK K (msk M H) m ds) ∨ ∃ m, H a = some (.dT m) ∧ DrT K (msk M H) m ds
  | _ => False
theorem Top.mut {K : PySem.W.Frag} {M : Mk} {H : Hp} {a : Addr} {d : D} (t : Top K M H a d) : isMut d = true := by
  cases d <;> first | rfl | exact t.elim
theorem Top.there {K : PySem.W.Frag} {M : Mk} {H : Hp} {a : Addr} {d : D} (t : Top K M H a d) : H a ≠ none := by
  intro e
  cases d with
  | list ds => obtain ⟨_, h, _⟩ := t; rw [e] at h; cases h
  | dict ds =>
    rcases t with ⟨_, h, _⟩ | ⟨_, h, _⟩
    · rw [e] at h; cases h
    · rw [e] at h; cases h
  | _ => exact t.elim
theorem Top.mono {K : PySem.W.Frag} {M M' : Mk} {H H' : Hp} {a : Addr} {d : D} (l : Lt (msk M H) (msk M' H')) (e : H' a = H a) (t : Top K M H a d) : Top K M' H' a d := by
  cases d with
  | list ds =>
    obtain ⟨xs, h1, h2⟩ := t
    exact ⟨xs, e.trans h1, h2.mono l⟩
  | dict ds =>
    rcases t with ⟨m, h1, h2⟩ | ⟨m, h1, h2⟩
    · exact .inl ⟨m, e.trans h1, h2.mono l⟩
    · exact .inr ⟨m, e.trans h1, h2.mono l⟩
  | _ => exact t.elim
/-- .. shared: taken out of the mask -/
theorem Top.share {K : PySem.W.Frag} {M : Mk} {H : Hp} {a : Addr} {d : D} (t : Top K M H a d) : Dr K (msk (M.del a) H) (.ref a) d := by
  have l : Lt (msk M H) (msk (M.del a) H) := msk_mono fun b o h1 h2 => ⟨by simp [Mk.del, h1], h2⟩
  cases d with
  | list ds =>
    obtain ⟨xs, h1, h2⟩ := t
    exact .lst (.inl (msk_some.mpr ⟨Mk.del_same, h1⟩)) (h2.mono l)
  | dict ds =>
    rcases t with ⟨m, h1, h2⟩ | ⟨m, h1, h2⟩
    · exact .dK (.inl (msk_some.mpr ⟨Mk.del_same, h1⟩)) (h2.mono l)
    · exact .dT (.inl (msk_some.mpr ⟨Mk.del_same, h1⟩)) (h2.mono l)
  | _ => exact t.elim

/-! ### the frame of a def's run: the heap and the mask at its entry, the slots it changes for its caller -/
structure Fx where
  B : Hp
  M0 : Mk
  io : List (Nat × Addr)
/-- a slot holds the object at a alone -/
def SO (σ : St) (r : Env) (a : Addr) : Prop := ∃ (i : Nat) (d : D), r[i]? = some (some (true, d)) ∧ σ[i]? = some (some (.ref a))

structure SRep (K : PySem.W.Frag) (fx : Fx) (M : Mk) (σ : St) (H : Hp) (r : Env) : Prop where
  len : σ.length = r.length
  sh : ∀ (i : Nat) (d : D), r[i]? = some (some (false, d)) → ∃ v, σ[i]? = some (some v) ∧ Dr K (msk M H) v d
  ow : ∀ (i : Nat) (d : D), r[i]? = some (some (true, d)) → ∃ a, σ[i]? = some (some (.ref a)) ∧ M a = true ∧ Top K M H a d ∧ ((i, a) ∈ fx.io ∨ fx.B a = none)
  fst : ∀ (i : Nat) (d : D) (a b : Addr), r[i]? = some (some (true, d)) → σ[i]? = some (some (.ref a)) → (i, b) ∈ fx.io → a = b
  dist : ∀ (i j : Nat) (d e : D) (a : Addr), r[i]? = some (some (true, d)) → r[j]? = some (some (true, e)) → σ[i]? = some (some (.ref a)) → σ[j]? = some (some (.ref a)) → i = j
  trk : ∀ a, M a = true → H a ≠ none
  mlo : ∀ a, M a = true → fx.M0 a = true ∨ fx.B a = none
  frm : ∀ a o, fx.M0 a = false → fx.B a = some o → M a = false ∧ H a = some o
  res : ∀ a, fx.M0 a = true → (∀ i, (i, a) ∉ fx.io) → M a = true ∧ H a = fx.B a
  all : ∀ a, fx.B a ≠ none → H a ≠ none

/-- one step: what is shared stays, what is kept for others stays -/
structure Step (σ : St) (M : Mk) (r : Env) (H : Hp) (M' : Mk) (r' : Env) (H' : Hp) : Prop where
  sh : ∀ a o, M a = false → H a = some o → M' a = false ∧ H' a = some o
  kp : ∀ a, M a = true → ¬ SO σ r a → M' a = true ∧ H' a = H a
  all : ∀ a, H a ≠ none → H' a ≠ none
  so : ∀ a, SO σ r' a → SO σ r a
theorem Step.refl {σ : St} {M : Mk} {r : Env} {H : Hp} : Step σ M r H M r H := ⟨fun _ _ a b => ⟨a, b⟩, fun _ a _ => ⟨a, rfl⟩, fun _ a => a, fun _ a => a⟩
theorem Step.trans {σ : St} {M1 M2 M3 : Mk} {r1 r2 r3 : Env} {H1 H2 H3 : Hp} (a : Step σ M1 r1 H1 M2 r2 H2) (b : Step σ M2 r2 H2 M3 r3 H3) : Step σ M1 r1 H1 M3 r3 H3 where
  sh := fun c o h1 h2 => let ⟨g1, g2⟩ := a.sh c o h1 h2; b.sh c o g1 g2
  kp := fun c h1 h2 => by
    obtain ⟨g1, g2⟩ := a.kp c h1 h2
    obtain ⟨k1, k2⟩ := b.kp c g1 fun z => h2 (a.so c z)
    exact ⟨k1, k2.trans g2⟩
  all := fun c h => b.all c (a.all c h)
  so := fun c h => a.so c (b.so c h)
theorem Step.lt {σ : St} {M M' : Mk} {r r' : Env} {H H' : Hp} (s : Step σ M r H M' r' H') : Lt (msk M H) (msk M' H') := msk_mono s.sh

/-- a value: new and its own, or shared -/
def VRep (K : PySem.W.Frag) (fx : Fx) (σ : St) (M : Mk) (H : Hp) (r : Env) (v : V) (fr : Bool) (d : D) : Prop :=
  if (fr && isMut d) = true then ∃ a, v = .ref a ∧ M a = true ∧ Top K M H a d ∧ ¬ SO σ r a ∧ fx.B a = none else Dr K (msk M H) v d

section
variable {K : PySem.W.Frag} {fx : Fx} {σ : St} {M M' : Mk} {H H' : Hp} {r r' : Env} {v : V} {fr : Bool} {d : D}
theorem VRep.sh (h : Dr K (msk M H) v d) : VRep K fx σ M H r v false d := h
theorem VRep.dr (h : VRep K fx σ M H r v false d) : Dr K (msk M H) v d := h
theorem VRep.plain (hm : isMut d = false) (h : VRep K fx σ M H r v fr d) : Dr K (msk M H) v d := by
  unfold VRep at h
  rw [hm, Bool.and_false] at h
  exact h
theorem VRep.new {a : Addr} (h1 : M a = true) (h2 : Top K M H a d) (h3 : ¬ SO σ r a) (h4 : fx.B a = none) : VRep K fx σ M H r (.ref a) true d := by
  unfold VRep
  rw [h2.mut]
  exact ⟨a, rfl, h1, h2, h3, h4⟩
theorem VRep.step (s : Step σ M r H M' r' H') (h : VRep K fx σ M H r v fr d) : VRep K fx σ M' H' r' v fr d := by
  unfold VRep at h ⊢
  split at h
  · rename_i hb
    rw [if_pos hb]
    obtain ⟨a, e, h1, h2, h3, h4⟩ := h
    obtain ⟨g1, g2⟩ := s.kp a h1 h3
    exact ⟨a, e, g1, h2.mono s.lt g2, fun z => h3 (s.so a z), h4⟩
  · rename_i hb
    rw [if_neg hb]
    exact h.mono s.lt
/-- what can be read of it: the thing itself, its items away from the mask -/
def Sh (K : PySem.W.Frag) (M : Mk) (H : Hp) (v : V) (d : D) : Prop :=
  Dr K (msk M H) v d ∨ ∃ a, v = .ref a ∧ Top K M H a d
theorem VRep.rd (h : VRep K fx σ M H r v fr d) : Sh K M H v d := by
  unfold VRep at h
  split at h
  · obtain ⟨a, e, _, h2, _⟩ := h
    exact .inr ⟨a, e, h2⟩
  · exact .inl h
theorem Sh.all (h : Sh K M H v d) : Dr K H v d := by
  rcases h with h | ⟨a, rfl, h⟩
  · exact h.mono (msk_lt M H)
  · cases d with
    | list ds =>
      obtain ⟨xs, h1, h2⟩ := h
      exact .lst (.inl h1) (h2.mono (msk_lt M H))
    | dict ds =>
      rcases h with ⟨m, h1, h2⟩ | ⟨m, h1, h2⟩
      · exact .dK (.inl h1) (h2.mono (msk_lt M H))
      · exact .dT (.inl h1) (h2.mono (msk_lt M H))
    | _ => exact h.elim
theorem Sh.flat (hm : isMut d = false) (h : Sh K M H v d) : Dr K (msk M H) v d := by
  rcases h with h | ⟨a, _, h⟩
  · exact h
  · rw [h.mut] at hm; cases hm
theorem Sh.list {ds : List D} (h : Sh K M H v (.list ds)) : ∃ a xs, v = .ref a ∧ Rd H a (.lst xs) ∧ DrA K (msk M H) xs ds := by
  rcases h with h | ⟨a, e, xs, h1, h2⟩
  · cases h with
    | lst h1 h2 => exact ⟨_, _, rfl, (msk_lt M H).rd h1, h2⟩
  · exact ⟨a, xs, e, .inl h1, h2⟩
theorem Sh.tuple {ds : List D} (h : Sh K M H v (.tuple ds)) : ∃ a xs, v = .ref a ∧ SqT K H a xs ∧ SqT K (msk M H) a xs ∧ DrA K (msk M H) xs ds := by
  rcases h with h | ⟨a, e, h⟩
  · cases h with
    | tup h1 h2 => exact ⟨_, _, rfl, (msk_lt M H).sqt h1, h1, h2⟩
  · exact h.elim
theorem Sh.seq {ds : List D} (h : Sh K M H v d) (hs : seqOf d = some ds) : ∃ a xs, v = .ref a ∧ (SqL K H a xs ∨ SqT K H a xs) ∧ DrA K (msk M H) xs ds := by
  cases d with
  | list es =>
    cases hs
    obtain ⟨a, xs, e, h1, h2⟩ := h.list
    exact ⟨a, xs, e, .inl (.inl h1), h2⟩
  | tuple es =>
    cases hs
    obtain ⟨a, xs, e, h1, _, h2⟩ := h.tuple
    exact ⟨a, xs, e, .inr h1, h2⟩
  | _ => cases hs
theorem Sh.int {i : Int} (h : Sh K M H v (.int i)) : v = .int i := by
  rcases h with h | ⟨a, _, h⟩
  · cases h; rfl
  · exact h.elim
theorem Sh.str {i : Str} (h : Sh K M H v (.str i)) : v = .str i := by
  rcases h with h | ⟨a, _, h⟩
  · cases h; rfl
  · exact h.elim
theorem Sh.bool {i : Bool} (h : Sh K M H v (.bool i)) : v = .bl i := by
  rcases h with h | ⟨a, _, h⟩
  · cases h; rfl
  · exact h.elim
theorem Sh.none (h : Sh K M H v .none) : v = .non := by
  rcases h with h | ⟨a, _, h⟩
  · cases h; rfl
  · exact h.elim

/-! ### the state -/
theorem SRep.slot (S : SRep K fx M σ H r) {i : Nat} (h : slotD r i = .ok d) : ∃ v, σ[i]? = some (some v) ∧ Sh K M H v d := by
  unfold slotD at h
  split at h
  · rename_i b e q
    cases h
    cases b with
    | false =>
      obtain ⟨v, h1, h2⟩ := S.sh i _ q
      exact ⟨v, h1, .inl h2⟩
    | true =>
      obtain ⟨a, h1, _, h2, _⟩ := S.ow i _ q
      exact ⟨_, h1, .inr ⟨a, rfl, h2⟩⟩
  · cases h
/-- a new object, kept for whoever asked -/
theorem SRep.alloc (S : SRep K fx M σ H r) {p : Addr} {o : HO} (hp : H p = none) : SRep K fx (M.add p) σ (upd H p o) r ∧ Step σ M r H (M.add p) r (upd H p o) ∧ ¬ SO σ r p ∧ fx.B p = none := by
  have hM : M p = false := by
    cases q : M p with
    | false => rfl
    | true => exact absurd hp (S.trk p q)
  have hB : fx.B p = none := by
    cases q : fx.B p with
    | none => rfl
    | some u => exact absurd hp (S.all p (by rw [q]; simp))
  have nso : ¬ SO σ r p := fun ⟨i, d, h1, h2⟩ => by
    obtain ⟨a, g1, g2, _⟩ := S.ow i d h1
    rw [h2] at g1
    cases g1
    rw [hM] at g2; cases g2
  have l : Lt (msk M H) (msk (M.add p) (upd H p o)) := msk_mono fun a u h1 h2 => by
    have ne : a ≠ p := ne_of_none h2 hp
    exact ⟨by rw [Mk.add_ne ne]; exact h1, by rw [upd_ne ne]; exact h2⟩
  have ne_of_M : ∀ a, M a = true → a ≠ p := fun a h z => by rw [z, hM] at h; cases h
  refine ⟨⟨S.len, fun i d e => ?_, fun i d e => ?_, S.fst, S.dist, fun a h => ?_, fun a h => ?_, fun a u h1 h2 => ?_, fun a h1 h2 => ?_, fun a h => ?_⟩, ⟨fun a u h1 h2 => ?_, fun a h1 h2 => ?_, fun a h => ?_, fun a h => h⟩, nso, hB⟩
  · obtain ⟨v, h1, h2⟩ := S.sh i d e
    exact ⟨v, h1, h2.mono l⟩
  · obtain ⟨a, h1, h2, h3, h4⟩ := S.ow i d e
    exact ⟨a, h1, Mk.add_of h2, h3.mono l (upd_ne (ne_of_M a h2)), h4⟩
  · by_cases z : a = p
    · rw [z, upd_same]; simp
    · rw [upd_ne z]
      rw [Mk.add_ne z] at h
      exact S.trk a h
  · by_cases z : a = p
    · exact .inr (by rw [z]; exact hB)
    · rw [Mk.add_ne z] at h
      exact S.mlo a h
  · have z : a ≠ p := ne_of_none h2 hB
    obtain ⟨g1, g2⟩ := S.frm a u h1 h2
    exact ⟨by rw [Mk.add_ne z]; exact g1, by rw [upd_ne z]; exact g2⟩
  · obtain ⟨g1, g2⟩ := S.res a h1 h2
    exact ⟨Mk.add_of g1, by rw [upd_ne (ne_of_M a g1)]; exact g2⟩
  · by_cases z : a = p
    · rw [z, upd_same]; simp
    · rw [upd_ne z]; exact S.all a h
  · have z : a ≠ p := ne_of_none h2 hp
    exact ⟨by rw [Mk.add_ne z]; exact h1, by rw [upd_ne z]; exact h2⟩
  · exact ⟨Mk.add_of h1, upd_ne (ne_of_M a h1)⟩
  · by_cases z : a = p
    · rw [z, upd_same]; simp
    · rw [upd_ne z]; exact h
/-- a new object that is shared from the beginning -/
theorem SRep.allocS (S : SRep K fx M σ H r) {p : Addr} {o : HO} (hp : H p = none) : SRep K fx M σ (upd H p o) r ∧ Step σ M r H M r (upd H p o) ∧ M p = false ∧ Lt (msk M H) (msk M (upd H p o)) := by
  have hM : M p = false := by
    cases q : M p with
    | false => rfl
    | true => exact absurd hp (S.trk p q)
  have hB : fx.B p = none := by
    cases q : fx.B p with
    | none => rfl
    | some u => exact absurd hp (S.all p (by rw [q]; simp))
  have l : Lt (msk M H) (msk M (upd H p o)) := msk_mono fun a u h1 h2 => by
    have ne : a ≠ p := ne_of_none h2 hp
    exact ⟨h1, by rw [upd_ne ne]; exact h2⟩
  have ne_of_M : ∀ a, M a = true → a ≠ p := fun a h z => by rw [z, hM] at h; cases h
  refine ⟨⟨S.len, fun i d e => ?_, fun i d e => ?_, S.fst, S.dist, fun a h => ?_, S.mlo, fun a u h1 h2 => ?_, fun a h1 h2 => ?_, fun a h => ?_⟩, ⟨fun a u h1 h2 => ?_, fun a h1 h2 => ?_, fun a h => ?_, fun a h => h⟩, hM, l⟩
  · obtain ⟨v, h1, h2⟩ := S.sh i d e
    exact ⟨v, h1, h2.mono l⟩
  · obtain ⟨a, h1, h2, h3, h4⟩ := S.ow i d e
    exact ⟨a, h1, h2, h3.mono l (upd_ne (ne_of_M a h2)), h4⟩
  · rw [upd_ne (ne_of_M a h)]; exact S.trk a h
  · have z : a ≠ p := ne_of_none h2 hB
    obtain ⟨g1, g2⟩ := S.frm a u h1 h2
    exact ⟨g1, by rw [upd_ne z]; exact g2⟩
  · obtain ⟨g1, g2⟩ := S.res a h1 h2
    exact ⟨g1, by rw [upd_ne (ne_of_M a g1)]; exact g2⟩
  · by_cases z : a = p
    · rw [z, upd_same]; simp
    · rw [upd_ne z]; exact S.all a h
  · have z : a ≠ p := ne_of_none h2 hp
    exact ⟨h1, by rw [upd_ne z]; exact h2⟩
  · exact ⟨h1, upd_ne (ne_of_M a h1)⟩
  · by_cases z : a = p
    · rw [z, upd_same]; simp
    · rw [upd_ne z]; exact h
/-- what was kept for someone is shared: taken out of the mask -/
theorem SRep.free (S : SRep K fx M σ H r) {a : Addr} (nso : ¬ SO σ r a) (hB : fx.B a = none) : SRep K fx (M.del a) σ H r := by
  have l : Lt (msk M H) (msk (M.del a) H) := msk_mono fun b o h1 h2 => ⟨by simp [Mk.del, h1], h2⟩
  refine ⟨S.len, fun i d e => ?_, fun i d e => ?_, S.fst, S.dist, fun b h => S.trk b (Mk.of_del h).2, fun b h => S.mlo b (Mk.of_del h).2, fun b u h1 h2 => ?_, fun b h1 h2 => ?_, S.all⟩
  · obtain ⟨v, h1, h2⟩ := S.sh i d e
    exact ⟨v, h1, h2.mono l⟩
  · obtain ⟨b, h1, h2, h3, h4⟩ := S.ow i d e
    have ne : b ≠ a := fun z => nso ⟨i, d, e, by rw [h1, z]⟩
    exact ⟨b, h1, by rw [Mk.del_ne ne]; exact h2, h3.mono l rfl, h4⟩
  · obtain ⟨g1, g2⟩ := S.frm b u h1 h2
    exact ⟨by simp [Mk.del, g1], g2⟩
  · obtain ⟨g1, g2⟩ := S.res b h1 h2
    by_cases z : b = a
    · have h := S.trk b g1
      rw [g2, z, hB] at h
      exact absurd rfl h
    · exact ⟨by rw [Mk.del_ne z]; exact g1, g2⟩
/-- any value shared: another mask, from the one ahead of which s leads here -/
theorem VRep.share {M0 : Mk} {r0 : Env} {H0 : Hp} (S : SRep K fx M σ H r) (s : Step σ M0 r0 H0 M r H) (hf : (fr && isMut d) = true → ∀ a, v = .ref a → M0 a = false) (h : VRep K fx σ M H r v fr d) :
    ∃ M', SRep K fx M' σ H r ∧ Step σ M0 r0 H0 M' r H ∧ Dr K (msk M' H) v d ∧ Lt (msk M H) (msk M' H) := by
  unfold VRep at h
  split at h
  · rename_i hb
    obtain ⟨a, rfl, h1, h2, h3, h4⟩ := h
    have l : Lt (msk M H) (msk (M.del a) H) := msk_mono fun b o h1 h2 => ⟨by simp [Mk.del, h1], h2⟩
    refine ⟨M.del a, S.free h3 h4, ⟨fun b o g1 g2 => ?_, fun b g1 g2 => ?_, s.all, s.so⟩, h2.share, l⟩
    · obtain ⟨k1, k2⟩ := s.sh b o g1 g2
      exact ⟨by simp [Mk.del, k1], k2⟩
    · obtain ⟨k1, k2⟩ := s.kp b g1 g2
      have ne : b ≠ a := fun z => by
        have := hf hb a rfl
        rw [← z, g1] at this; cases this
      exact ⟨by rw [Mk.del_ne ne]; exact k1, k2⟩
  · exact ⟨M, S, s, h, Lt.refl _⟩
end
end Pv

end
section
/-! The readings of the code: what an expression of the text gives is what the code gives. -/
namespace Pv
open PySem PySem.Spec L2

theorem _root_.L2.PE.mono {X : Cx} {e : Expr} {t t' : TE} (h : PE X e t) (i : ∀ σ H Q, t' σ H Q → t σ H Q) : PE X e t' :=
  ⟨fun pins s σ H Q I q => h.run pins s σ H Q I (i σ H Q q)⟩
theorem _root_.L2.PT.mono {X : Cx} {e : Expr} {t t' : TT} (h : PT X e t) (i : ∀ σ H Q, t' σ H Q → t σ H Q) : PT X e t' :=
  ⟨fun pins s σ H Q I q => h.run pins s σ H Q I (i σ H Q q)⟩
theorem _root_.L2.PW.mono {X : Cx} {e : Expr} {t t' : TT} (h : PW X e t) (i : ∀ σ H Q, t' σ H Q → t σ H Q) : PW X e t' :=
  ⟨fun w pins s σ H Q I q => h.run w pins s σ H Q I (i σ H Q q)⟩
theorem _root_.L2.PS.mono {X : Cx} {e : Stmt} {t t' : TS} (h : PS X e t) (i : ∀ D σ H, t' D σ H → t D σ H) : PS X e t' :=
  ⟨fun pins s σ H D I q => h.run pins s σ H D I (i D σ H q)⟩
theorem _root_.L2.PSs.mono {X : Cx} {e : List Stmt} {t t' : TS} (h : PSs X e t) (i : ∀ D σ H, t' D σ H → t D σ H) : PSs X e t' :=
  ⟨fun pins s σ H D I q => h.run pins s σ H D I (i D σ H q)⟩
theorem _root_.L2.PA.mono {X : Cx} {e : List Expr} {t t' : TA} (h : PA X e t) (i : ∀ σ H Q, t' σ H Q → t σ H Q) : PA X e t' :=
  ⟨fun p pins s σ H Q I q => h.run p pins s σ H Q I (i σ H Q q)⟩

/-- behind an expression -/
structure EPost (K : PySem.W.Frag) (fx : Fx) (σ : L2.St) (M : Mk) (r : Env) (H : Hp) (v : V) (fr : Bool) (d : D) (r' : Env) (M' : Mk) (H' : Hp) : Prop where
  rep : SRep K fx M' σ H' r'
  step : Step σ M r H M' r' H'
  val : VRep K fx σ M' H' r' v fr d
  new : (fr && isMut d) = true → ∀ a, v = .ref a → H a = none
def OVal (K : PySem.W.Frag) (fx : Fx) (σ : L2.St) (M : Mk) (H : Hp) (r : Env) (v : V) : Nat ⊕ D → Prop
  | .inl i => σ[i]? = some (some v)
  | .inr d => ∃ fr, VRep K fx σ M H r v fr d
structure OPost (K : PySem.W.Frag) (fx : Fx) (σ : L2.St) (M : Mk) (r : Env) (H : Hp) (v : V) (x : Nat ⊕ D) (r' : Env) (M' : Mk) (H' : Hp) : Prop where
  rep : SRep K fx M' σ H' r'
  step : Step σ M r H M' r' H'
  val : OVal K fx σ M' H' r' v x

def TE1 (K : PySem.W.Frag) (c : CE) : TE := fun σ H Q => ∃ fx M r x, SRep K fx M σ H r ∧ evE c r = .ok x ∧ ∀ v M' H', EPost K fx σ M r H v x.1 x.2.1 x.2.2 M' H' → Q v H'
def TO1 (K : PySem.W.Frag) (c : CE) : TE := fun σ H Q => ∃ fx M r x, SRep K fx M σ H r ∧ opnd c (evE c) r = .ok x ∧ ∀ v M' H', OPost K fx σ M r H v x.1 x.2 M' H' → Q v H'
def TT1 (K : PySem.W.Frag) (c : CT) : TT := fun σ H Q => ∃ fx M r x, SRep K fx M σ H r ∧ evT c r = .ok x ∧ ∀ M' H', SRep K fx M' σ H' x.2 → Step σ M r H M' x.2 H' → Q x.1 H'

section
variable {K : PySem.W.Frag} {fx : Fx} {σ : L2.St} {M M' : Mk} {H H' : Hp} {r r' : Env} {v : V} {fr : Bool} {d : D}
theorem OVal.step {x : Nat ⊕ D} (s : Step σ M r H M' r' H') (h : OVal K fx σ M H r v x) : OVal K fx σ M' H' r' v x := by
  cases x with
  | inl i => exact h
  | inr d => obtain ⟨fr, h⟩ := h; exact ⟨fr, h.step s⟩
theorem OVal.sh {x : Nat ⊕ D} (S : SRep K fx M σ H r) (h : OVal K fx σ M H r v x) (e : look r x = .ok d) : Sh K M H v d := by
  cases x with
  | inl i =>
    obtain ⟨w, h1, h2⟩ := S.slot e
    have h' : σ[i]? = some (some v) := h
    rw [h'] at h1
    cases h1
    exact h2
  | inr d' =>
    obtain ⟨fr, h⟩ := h
    cases e
    exact h.rd
/-- the end of an expression whose value is shared and whose state stays -/
theorem EPost.flat (S : SRep K fx M σ H r) (h : Dr K (msk M H) v d) : EPost K fx σ M r H v false d r M H := ⟨S, .refl, h, fun z => by cases z⟩
theorem EPost.flat' (S : SRep K fx M σ H r) (hm : isMut d = false) (h : Dr K (msk M H) v d) : EPost K fx σ M r H v fr d r M H :=
  ⟨S, .refl, by unfold VRep; rw [hm, Bool.and_false]; exact h, fun z => by rw [hm, Bool.and_false] at z; cases z⟩
theorem EPost.after {M1 : Mk} {r1 : Env} {H1 : Hp} (s : Step σ M r H M1 r1 H1) (h : EPost K fx σ M1 r1 H1 v fr d r' M' H') : EPost K fx σ M r H v fr d r' M' H' :=
  ⟨h.rep, s.trans h.step, h.val, fun z a e => Classical.byContradiction fun g => s.all a g (h.new z a e)⟩
/-- a new list -/
theorem EPost.newL (S : SRep K fx M σ H r) {p : Addr} (hp : H p = none) {xs : List V} {ds : List D} (h : DrA K (msk M H) xs ds) :
    EPost K fx σ M r H (.ref p) true (.list ds) r (M.add p) (upd H p (.lst xs)) := by
  obtain ⟨S', s, nso, hB⟩ := S.alloc (o := .lst xs) hp
  refine ⟨S', s, .new Mk.add_same ⟨xs, upd_same, h.mono s.lt⟩ nso hB, fun _ a e => ?_⟩
  cases e
  exact hp
/-- a new tuple -/
theorem EPost.newT (S : SRep K fx M σ H r) {p : Addr} (hp : H p = none) {xs : List V} {ds : List D} (h : DrA K (msk M H) xs ds) :
    EPost K fx σ M r H (.ref p) fr (.tuple ds) r M (upd H p (.tup xs)) := by
  obtain ⟨S', s, hM, l⟩ := S.allocS (o := .tup xs) hp
  have q : Dr K (msk M (upd H p (.tup xs))) (.ref p) (.tuple ds) := .tup (.inl (.inl (msk_some.mpr ⟨hM, upd_same⟩))) (h.mono l)
  refine ⟨S', s, ?_, fun z => by rw [show isMut (.tuple ds) = false from rfl, Bool.and_false] at z; cases z⟩
  unfold VRep
  rw [show isMut (.tuple ds) = false from rfl, Bool.and_false]
  exact q

/-- a slot is shared -/
theorem SRep.shareSlot (S : SRep K fx M σ H r) {i : Nat} {x : D × Env} (e : share r i = .ok x) : ∃ v M', σ[i]? = some (some v) ∧ SRep K fx M' σ H x.2 ∧ Step σ M r H M' x.2 H ∧ Dr K (msk M' H) v x.1 := by
  unfold share at e
  split at e
  · rename_i b d q
    cases e
    have hi : i < r.length := (List.getElem?_eq_some_iff.mp q).1
    have look : ∀ j, j ≠ i → (r.set i (some (false, d)))[j]? = r[j]? := fun j h => List.getElem?_set_ne (Ne.symm h)
    have here : (r.set i (some (false, d)))[i]? = some (some (false, d)) := List.getElem?_set_self hi
    cases b with
    | false =>
      obtain ⟨v, h1, h2⟩ := S.sh i d q
      have er : r.set i (some (false, d)) = r := by
        refine List.ext_getElem? fun j => ?_
        by_cases h : j = i
        · subst h; rw [here, q]
        · exact look j h
      show ∃ v M', _ ∧ SRep K fx M' σ H (r.set i (some (false, d))) ∧ Step σ M r H M' (r.set i (some (false, d))) H ∧ _
      rw [er]
      exact ⟨v, M, h1, S, .refl, h2⟩
    | true =>
      obtain ⟨a, h1, h2, h3, h4⟩ := S.ow i d q
      have l : Lt (msk M H) (msk (M.del a) H) := msk_mono fun b o g1 g2 => ⟨by simp [Mk.del, g1], g2⟩
      have own' : ∀ j e, (r.set i (some (false, d)))[j]? = some (some (true, e)) → j ≠ i ∧ r[j]? = some (some (true, e)) := fun j e z => by
        by_cases h : j = i
        · subst h; rw [here] at z; cases z
        · rw [look j h] at z; exact ⟨h, z⟩
      refine ⟨.ref a, M.del a, h1, ⟨by rw [List.length_set]; exact S.len, fun j e z => ?_, fun j e z => ?_, fun j e b b' z => S.fst j e b b' (own' j e z).2, fun j k e f b z1 z2 => S.dist j k e f b (own' j e z1).2 (own' k f z2).2,
        fun b h => S.trk b (Mk.of_del h).2, fun b h => S.mlo b (Mk.of_del h).2, fun b o g1 g2 => ?_, fun b g1 g2 => ?_, S.all⟩, ⟨fun b o g1 g2 => ⟨by simp [Mk.del, g1], g2⟩, fun b g1 g2 => ?_, fun _ g => g, fun b z => ?_⟩, h3.share⟩
      · by_cases h : j = i
        · subst h
          rw [here] at z
          cases z
          exact ⟨.ref a, h1, h3.share⟩
        · rw [look j h] at z
          obtain ⟨v, k1, k2⟩ := S.sh j e z
          exact ⟨v, k1, k2.mono l⟩
      · obtain ⟨ne, z'⟩ := own' j e z
        obtain ⟨b, k1, k2, k3, k4⟩ := S.ow j e z'
        have nb : b ≠ a := fun w => ne (S.dist j i e d a z' q (by rw [k1, w]) h1)
        exact ⟨b, k1, by rw [Mk.del_ne nb]; exact k2, k3.mono l rfl, k4⟩
      · obtain ⟨k1, k2⟩ := S.frm b o g1 g2
        exact ⟨by simp [Mk.del, k1], k2⟩
      · obtain ⟨k1, k2⟩ := S.res b g1 g2
        have nb : b ≠ a := fun w => by
          rcases h4 with h4 | h4
          · exact g2 i (by rw [w]; exact h4)
          · rw [w, h4] at k2
            exact h3.there k2
        exact ⟨by rw [Mk.del_ne nb]; exact k1, k2⟩
      · have nb : b ≠ a := fun w => g2 ⟨i, d, q, by rw [h1, w]⟩
        exact ⟨by rw [Mk.del_ne nb]; exact g1, rfl⟩
      · obtain ⟨j, e, z1, z2⟩ := z
        exact ⟨j, e, (own' j e z1).2, z2⟩
  · cases e
end

/-! ### expressions -/
/-- an expression by its code: as a value, as an operand -/
structure GE (X : Cx) (e : Expr) (c : CE) : Prop where
  ev : PE X e (TE1 X.K c)
  op : PE X e (TO1 X.K c)
section
variable {X : Cx} {e a b : Expr} {ca cb c : CE} {pos : Pos}
/-- an operand is a value, or a name -/
theorem opnd_val (hc : ∀ i, c ≠ .var i) (f : Env → R (Bool × D × Env)) (r : Env) : opnd c f r = f r >>= fun x => .ok (.inr x.2.1, x.2.2) := by
  cases c <;> first | rfl | exact absurd rfl (hc _)
theorem GE.of (hc : ∀ i, c ≠ .var i) (h : PE X e (TE1 X.K c)) : GE X e c := by
  refine ⟨h, h.mono fun σ H Q ⟨fx, M, r, x, S, ex, k⟩ => ?_⟩
  rw [opnd_val hc] at ex
  obtain ⟨y, e1, e2⟩ := R.bind_ok ex
  cases e2
  exact ⟨fx, M, r, y, S, e1, fun v M' H' p => k v M' H' ⟨p.rep, p.step, _, p.val⟩⟩
theorem ge_var {i : Nat} (h : PE X e (tVar i)) : GE X e (.var i) := by
  refine ⟨h.mono fun σ H Q ⟨fx, M, r, x, S, ex, k⟩ => ?_, h.mono fun σ H Q ⟨fx, M, r, x, S, ex, k⟩ => ?_⟩
  · rw [evE] at ex
    obtain ⟨y, e1, e2⟩ := R.bind_ok ex
    cases e2
    obtain ⟨v, M', h1, h2, h3, h4⟩ := S.shareSlot e1
    exact ⟨v, h1, k v M' H ⟨h2, h3, h4, fun z => by cases z⟩⟩
  · have ex : (slotD r i >>= fun _ => R.ok ((Sum.inl i : Nat ⊕ D), r)) = R.ok x := ex
    obtain ⟨y, e1, e2⟩ := R.bind_ok ex
    cases e2
    obtain ⟨v, h1, h2⟩ := S.slot e1
    exact ⟨v, h1, k v M H ⟨S, .refl, h1⟩⟩
end
end Pv

end
section
/-! Operators by values. -/
namespace Pv
open PySem PySem.Spec L2

/-- an operation's reading, by data -/
def OpS (K : PySem.W.Frag) (rr : R2) (g : D → D → R (Bool × D)) : Prop := ∀ (fx : Fx) (M : Mk) (σ : L2.St) (r : Env) (H : Hp) (u v : V) (x y : D) (z : Bool × D) (Q : VK), SRep K fx M σ H r → Sh K M H u x → Sh K M H v y → g x y = .ok z →
  (∀ w M' H', EPost K fx σ M r H w z.1 z.2 r M' H' → Q w H') → rr u v H Q

section
variable {X : Cx} {e a b : Expr} {ca cb c : CE} {pos : Pos}
theorem ge_bin {o : BOp} {op : Operator} {rr : R2} (ho : OpR X (binaryOp op) rr) (hs : OpS X.K rr (bop o)) (ha : GE X a ca) (hb : GE X b cb) : GE X (.BinOp a op b pos) (.bin o ca cb) := by
  refine .of (fun i h => by cases h) ((pe_op ho ha.op hb.op).mono fun σ H Q ⟨fx, M, r, x, S, ex, k⟩ => ?_)
  rw [evE] at ex
  obtain ⟨x1, e1, ex⟩ := R.bind_ok ex
  obtain ⟨y1, e2, ex⟩ := R.bind_ok ex
  obtain ⟨d1, e3, ex⟩ := R.bind_ok ex
  obtain ⟨d2, e4, ex⟩ := R.bind_ok ex
  obtain ⟨z, e5, ex⟩ := R.bind_ok ex
  cases ex
  exact ⟨fx, M, r, x1, S, e1, fun u M1 H1 p1 => ⟨fx, M1, x1.2, y1, p1.rep, e2, fun v M2 H2 p2 =>
    hs fx M2 σ y1.2 H2 u v d1 d2 z Q p2.rep ((p1.val.step p2.step).sh p2.rep e3) (p2.val.sh p2.rep e4) e5 fun w M3 H3 p3 => k w M3 H3 (p3.after (p1.step.trans p2.step))⟩⟩
theorem ge_cmp {o : COp} {op : CmpOp} {rr : R2} (ho : OpR X (compareOp op) rr) (hs : OpS X.K rr fun x y => cop o x y >>= fun z => plain (.bool z)) (ha : GE X a ca) (hb : GE X b cb) (hm : behindInMarks op b = false) :
    GE X (.Compare a [op] [b] pos) (.cmp o ca cb) := by
  refine .of (fun i h => by cases h) ((pe_cmpR ho ha.op hb.op hm).mono fun σ H Q ⟨fx, M, r, x, S, ex, k⟩ => ?_)
  rw [evE] at ex
  obtain ⟨x1, e1, ex⟩ := R.bind_ok ex
  obtain ⟨y1, e2, ex⟩ := R.bind_ok ex
  obtain ⟨d1, e3, ex⟩ := R.bind_ok ex
  obtain ⟨d2, e4, ex⟩ := R.bind_ok ex
  obtain ⟨z, e5, ex⟩ := R.bind_ok ex
  cases ex
  exact ⟨fx, M, r, x1, S, e1, fun u M1 H1 p1 => ⟨fx, M1, x1.2, y1, p1.rep, e2, fun v M2 H2 p2 =>
    hs fx M2 σ y1.2 H2 u v d1 d2 (false, .bool z) Q p2.rep ((p1.val.step p2.step).sh p2.rep e3) (p2.val.sh p2.rep e4) (by show (cop o d1 d2 >>= fun z => plain (.bool z)) = _; rw [e5]; rfl) fun w M3 H3 p3 => k w M3 H3 (p3.after (p1.step.trans p2.step))⟩⟩

/-! ### lists -/
theorem lstR {pins : List (Addr × Obj)} {s : Shared} {σ : L2.St} {H : Hp} {l : Addr} {xs : List V} (I : Inv X pins σ H s) (h : Rd H l (.lst xs)) :
    xs.length ≤ sizeLine ∧ ∃ (its : List Value) (n : Nat), Vals xs its ∧ xs.length = its.length ∧ s.heap.get? l = some { cls := .type "list", data := .seq its.toArray n } := by
  obtain ⟨z, its, n, r, e⟩ := h.ok I.hok
  exact ⟨z, its, n, r, r.length, e⟩
def rCatR : R2 := fun x y H Q => ∃ l b xs zs, x = .ref l ∧ y = .ref b ∧ Rd H l (.lst xs) ∧ Rd H b (.lst zs) ∧ xs.length + zs.length ≤ sizeLine ∧ ∀ p, H p = none → Q (.ref p) (upd H p (.lst (xs ++ zs)))
theorem op_catR : OpR X (binaryOp .Add) rCatR := by
  intro pins s σ H x y v u Q I rx ry h
  obtain ⟨l, b, xs, zs, rfl, rfl, hA, hB, hz, q⟩ := h
  cases rx
  cases ry
  obtain ⟨_, us, n1, r1, l1, g1⟩ := lstR I hA
  obtain ⟨_, ws, n2, r2, l2, g2⟩ := lstR I hB
  have ea : us.toArray ++ ws.toArray = (us ++ ws).toArray := by simp
  refine PySem.P.add_list g1 g2 ?_ (by simp only [List.size_toArray]; omega)
  rw [ea]
  refine ⟨.ref _, _, I.lnew (t' := s.toks) (r1.append r2) (by rw [List.length_append]; exact hz), rfl, q _ I.fresh⟩

theorem szl : SZ = sizeLine := by rw [sizeLine_eq]; rfl

/-- + -/
def rAdd4 (K : PySem.W.Frag) : R2 := fun x y H Q => rI0 (fun i j => .int (i + j)) x y H Q ∨ ((∃ i j, x = .str i ∧ y = .str j ∧ i.length + j.length ≤ sizeLine ∧ Q (.str (i ++ j)) H) ∨ (rCatR x y H Q ∨ rCatA K x y H Q))
theorem op_add4 : OpR X (binaryOp .Add) (rAdd4 X.K) := op_add.or (op_add_str.or (op_catR.or op_catA))
theorem os_add {K : PySem.W.Frag} : OpS K (rAdd4 K) (bop .add) := by
  intro fx M σ r H u v x y z Q S hu hv e k
  cases x with
  | int i =>
    cases y with
    | int j =>
      cases e
      rw [hu.int, hv.int]
      exact .inl ⟨i, j, rfl, rfl, k _ _ _ (.flat S (.int _))⟩
    | _ => cases e
  | str i =>
    cases y with
    | str j =>
      have e : (if i.length + j.length ≤ SZ then plain (.str (i ++ j)) else .bad) = R.ok z := e
      split at e
      · rename_i hz
        cases e
        rw [hu.str, hv.str]
        exact .inr (.inl ⟨i, j, rfl, rfl, by rw [← szl]; exact hz, k _ _ _ (.flat S (.str _))⟩)
      · cases e
    | _ => cases e
  | list xs =>
    cases y with
    | list ys =>
      have e : (if xs.length + ys.length ≤ SZ then fresh (.list (xs ++ ys)) else .bad) = R.ok z := e
      split at e
      · rename_i hz
        cases e
        obtain ⟨a, vs, rfl, h1, h2⟩ := hu.list
        obtain ⟨b, ws, rfl, g1, g2⟩ := hv.list
        exact .inr (.inr (.inl ⟨a, b, vs, ws, rfl, rfl, h1, g1, by rw [← szl, h2.length, g2.length]; exact hz, fun p hp => k _ _ _ (.newL S hp (h2.app g2))⟩))
      · cases e
    | _ => cases e
  | tuple xs =>
    cases y with
    | tuple ys =>
      have e : (if xs.length + ys.length ≤ SZ then plain (.tuple (xs ++ ys)) else .bad) = R.ok z := e
      split at e
      · rename_i hz
        cases e
        obtain ⟨a, vs, rfl, h1, h3, h2⟩ := hu.tuple
        obtain ⟨b, ws, rfl, g1, g3, g2⟩ := hv.tuple
        refine .inr (.inr (.inr ⟨a, b, vs, ws, rfl, rfl, h1, g1, by rw [← szl, h2.length, g2.length]; exact hz, fun n => ?_, fun _ n => ?_, fun _ _ p hp => k _ _ _ (.newT S hp (h2.app g2))⟩))
        · subst n
          cases h2
          exact k _ _ _ (.flat S (.tup g3 g2))
        · subst n
          cases g2
          rw [List.append_nil] at k
          exact k _ _ _ (.flat S (.tup h3 h2))
      · cases e
    | _ => cases e
  | _ => cases e

/-- two ints in, a value out -/
theorem os_int {K : PySem.W.Frag} {o : BOp} {C : Int → Int → Prop} {f : Int → Int → Int} (h : ∀ x y z, bop o x y = .ok z → ∃ i j, x = .int i ∧ y = .int j ∧ C i j ∧ z = (false, .int (f i j))) : OpS K (rI C fun i j => .int (f i j)) (bop o) := by
  intro fx M σ r H u v x y z Q S hu hv e k
  obtain ⟨i, j, rfl, rfl, hc, rfl⟩ := h x y z e
  rw [hu.int, hv.int]
  exact ⟨i, j, rfl, rfl, hc, k _ _ _ (.flat S (.int _))⟩
theorem os_int0 {K : PySem.W.Frag} {o : BOp} {f : Int → Int → Int} (h : ∀ x y z, bop o x y = .ok z → ∃ i j, x = .int i ∧ y = .int j ∧ z = (false, .int (f i j))) : OpS K (rI0 fun i j => .int (f i j)) (bop o) := by
  intro fx M σ r H u v x y z Q S hu hv e k
  obtain ⟨i, j, rfl, rfl, rfl⟩ := h x y z e
  rw [hu.int, hv.int]
  exact ⟨i, j, rfl, rfl, k _ _ _ (.flat S (.int _))⟩
theorem os_sub {K : PySem.W.Frag} : OpS K (rI0 fun i j => .int (i - j)) (bop .sub) := os_int0 fun x y z e => by
  cases x <;> cases y <;> cases e <;> exact ⟨_, _, rfl, rfl, rfl⟩
theorem os_band {K : PySem.W.Frag} : OpS K (rI0 fun i j => .int (Builtin.bitAnd i j)) (bop .band) := os_int0 fun x y z e => by
  cases x <;> cases y <;> cases e <;> exact ⟨_, _, rfl, rfl, rfl⟩
theorem os_bor {K : PySem.W.Frag} : OpS K (rI0 fun i j => .int (Builtin.bitOr i j)) (bop .bor) := os_int0 fun x y z e => by
  cases x <;> cases y <;> cases e <;> exact ⟨_, _, rfl, rfl, rfl⟩
theorem os_mod {K : PySem.W.Frag} : OpS K (rI (fun _ j => 0 < j) fun i j => .int (i % j)) (bop .mod) := os_int fun x y z e => by
  cases x with
  | int i =>
    cases y with
    | int j =>
      have e : (if 0 < j then plain (.int (i % j)) else .bad) = R.ok z := e
      split at e
      · rename_i h
        cases e
        exact ⟨i, j, rfl, rfl, h, rfl⟩
      · cases e
    | _ => cases e
  | _ => cases e
theorem os_pow {K : PySem.W.Frag} : OpS K (rI CPow fun i j => .int (i ^ j.toNat)) (bop .pow) := os_int fun x y z e => by
  cases x with
  | int i =>
    cases y with
    | int j =>
      have e : (if 0 ≤ j ∧ j ≤ 1000000 ∧ i.natAbs < 2 ^ 64 then plain (.int (i ^ j.toNat)) else .bad) = R.ok z := e
      split at e
      · rename_i h
        cases e
        exact ⟨i, j, rfl, rfl, h, rfl⟩
      · cases e
    | _ => cases e
  | _ => cases e
theorem os_shl {K : PySem.W.Frag} : OpS K (rI CPow fun i j => .int (i * 2 ^ j.toNat)) (bop .shl) := os_int fun x y z e => by
  cases x with
  | int i =>
    cases y with
    | int j =>
      have e : (if 0 ≤ j ∧ j ≤ 1000000 ∧ i.natAbs < 2 ^ 64 then plain (.int (i * 2 ^ j.toNat)) else .bad) = R.ok z := e
      split at e
      · rename_i h
        cases e
        exact ⟨i, j, rfl, rfl, h, rfl⟩
      · cases e
    | _ => cases e
  | _ => cases e
theorem os_shr {K : PySem.W.Frag} : OpS K (rI (fun _ j => 0 ≤ j) fun i j => .int (i / 2 ^ j.toNat)) (bop .shr) := os_int fun x y z e => by
  cases x with
  | int i =>
    cases y with
    | int j =>
      have e : (if 0 ≤ j then plain (.int (i / 2 ^ j.toNat)) else .bad) = R.ok z := e
      split at e
      · rename_i h
        cases e
        exact ⟨i, j, rfl, rfl, h, rfl⟩
      · cases e
    | _ => cases e
  | _ => cases e
def rDiv2 : R2 := fun x y H Q => rI CDiv (fun i j => .int (i / j)) x y H Q ∨ rI CDivW (fun i j => .int (i / j)) x y H Q
theorem op_div2 : OpR X (binaryOp .FloorDiv) rDiv2 := op_fdiv.or op_fdivW
theorem os_div {K : PySem.W.Frag} : OpS K rDiv2 (bop .fdiv) := by
  intro fx M σ r H u v x y z Q S hu hv e k
  cases x with
  | int i =>
    cases y with
    | int j =>
      have e : (if 0 < j ∧ j < 1073741824 then plain (.int (i / j)) else if 0 < j ∧ bitL j < 9000 then plain (.int (i / j)) else .bad) = R.ok z := e
      rw [hu.int, hv.int]
      split at e
      · rename_i h
        cases e
        exact .inl ⟨i, j, rfl, rfl, h, k _ _ _ (.flat S (.int _))⟩
      · split at e
        · rename_i h
          cases e
          exact .inr ⟨i, j, rfl, rfl, h, k _ _ _ (.flat S (.int _))⟩
        · cases e
    | _ => cases e
  | _ => cases e

def rRepR : R2 := fun x y H Q => ∃ l k xs, x = .ref l ∧ y = .int k ∧ Rd H l (.lst xs) ∧ -(2 ^ 63) ≤ k ∧ k < 2 ^ 63 ∧ xs.length * k.toNat ≤ sizeLine ∧
  ∀ p, H p = none → Q (.ref p) (upd H p (.lst (List.replicate k.toNat xs).flatten))
theorem op_repR : OpR X (binaryOp .Mult) rRepR := by
  intro pins s σ H x y v u Q I rx ry h
  obtain ⟨l, k, xs, rfl, rfl, hA, hlo, hhi, hz, q⟩ := h
  cases rx
  obtain ⟨t, rfl⟩ := ry
  obtain ⟨_, us, n, rv, hl, g⟩ := lstR I hA
  have z1 : us.toArray.size * k.toNat ≤ sizeLine := by
    simp only [List.size_toArray]
    rw [← hl]
    exact hz
  have z2 : ¬ us.toArray.size * k.toNat > (2 ^ 63 - 1) / 8 := by
    have big : (sizeLine : Nat) ≤ (2 ^ 63 - 1) / 8 := by decide
    omega
  have z3 : ¬ (!Builtin.List.listFitsIndex k) = true := by simp [fitsIndex_both hlo hhi]
  have z4 : ¬ Builtin.List.listTooLong (us.toArray.size * k.toNat) = true := by
    rw [notLongL z1]
    exact Bool.false_ne_true
  have many : ∀ m : Nat, List.foldl (fun a b => a ++ b) #[] (List.replicate m us.toArray) = (List.replicate m us).flatten.toArray := fun m => by
    simpa using foldl_rep us m []
  have made : List.foldl (fun a b => a ++ b) #[] (List.replicate (if us.toArray.isEmpty = true then 0 else k.toNat) us.toArray) = (List.replicate k.toNat us).flatten.toArray := by
    rw [many]
    cases us with
    | nil => simp
    | cons a t => simp
  have isL : ∃ o, s.heap.get? l = some o ∧ o.cls = Value.type "list" := ⟨_, g, rfl⟩
  have inner := AutoListH.list___mul___list_int_3 l us.toArray n k t z3 z2 z4
  refine wpAny_binaryOp_repeat_ref (U := "int") (T := "list") (by decide) isL (fun s' => typeIs_int s' k t) noFill_list_mul F.fills_int_mul F.slot_int_rmul repeat_list F.slot_int_index.lookup ?_
  refine call_meets F.slot_int_rmul (typeIs_int s k t) F.entry_int_rmul (F.args_int_rmul_2 _ _) (int___rmul___int_list k t l us.toArray n) ⟨g, rfl, isL, ?_⟩
  refine call_meets F.slot_list_mul isL F.entry_list_mul (F.args_list_mul_2 _ _) inner ⟨g, ?_⟩
  rw [made]
  have sz : (List.replicate k.toNat xs).flatten.length ≤ sizeLine := by
    rw [PyProof.Rows.lm_len_rep_flat, Nat.mul_comm]
    exact hz
  exact ⟨.ref _, _, I.lnew (t' := s.toks) (rv.rep k.toNat) sz, rfl, q _ I.fresh⟩
def rMul (K : PySem.W.Frag) : R2 := fun x y H Q => rI CMulW (fun i j => .int (i * j)) x y H Q ∨ (rI CMul (fun i j => .int (i * j)) x y H Q ∨ (rRepR x y H Q ∨ rRepT K x y H Q))
theorem op_mul4 : OpR X (binaryOp .Mult) (rMul X.K) := op_mulW.or (op_mul.or (op_repR.or op_repT))
theorem os_mul {K : PySem.W.Frag} : OpS K (rMul K) (bop .mul) := by
  intro fx M σ r H u v x y z Q S hu hv e k
  cases y with
  | int j =>
    rw [hv.int]
    cases x with
    | int i =>
      rw [hu.int]
      have e : (if (bitL i + bitL j < 1000000) then plain (.int (i * j)) else if (-(2 ^ 64) < i ∧ i < 2 ^ 64) ∨ (-(2 ^ 64) < j ∧ j < 2 ^ 64) then plain (.int (i * j)) else .bad) = R.ok z := e
      split at e
      · rename_i h
        cases e
        exact .inl ⟨i, j, rfl, rfl, h, k _ _ _ (.flat S (.int _))⟩
      · split at e
        · rename_i h
          cases e
          exact .inr (.inl ⟨i, j, rfl, rfl, h, k _ _ _ (.flat S (.int _))⟩)
        · cases e
    | list xs =>
      have e : (if -(2 ^ 63) ≤ j ∧ j < 2 ^ 63 ∧ xs.length * j.toNat ≤ SZ then fresh (.list (List.replicate j.toNat xs).flatten) else .bad) = R.ok z := e
      split at e
      · rename_i h
        cases e
        obtain ⟨a, vs, rfl, h1, h2⟩ := hu.list
        exact .inr (.inr (.inl ⟨a, j, vs, rfl, rfl, h1, h.1, h.2.1, by rw [← szl, h2.length]; exact h.2.2, fun p hp => k _ _ _ (.newL S hp (h2.reps _))⟩))
      · cases e
    | tuple xs =>
      have e : (if xs ≠ [] ∧ 2 ≤ j ∧ j ≤ 1000 ∧ xs.length ≤ 1000 then plain (.tuple (List.replicate j.toNat xs).flatten) else .bad) = R.ok z := e
      split at e
      · rename_i h
        cases e
        obtain ⟨a, vs, rfl, h1, h3, h2⟩ := hu.tuple
        refine .inr (.inr (.inr ⟨a, j, vs, rfl, rfl, h1, fun n => ?_, h.2.1, h.2.2.1, by rw [h2.length]; exact h.2.2.2, fun p hp => k _ _ _ (.newT S hp (h2.reps _))⟩))
        subst n
        cases h2
        exact h.1 rfl
      · cases e
    | _ => cases e
  | _ => cases x <;> cases e

/-! ### comparisons -/
mutual
theorem Dr.dp {K : PySem.W.Frag} {H : Hp} : ∀ {v : V} {d : D}, Dr K H v d → d.canLay0 = true → Dp K H v d
  | _, _, .non, _ => .non
  | _, _, .bl b, _ => .bl b
  | _, _, .int i, _ => .int i
  | _, _, .str x, _ => .str x
  | _, _, .lst h1 h2, e => .lst (.inl h1) (DrA.dp h2 (by simpa [PyData.canLay0] using e))
  | _, _, .tup h1 h2, e => .tup h1 (DrA.dp h2 (by simpa [PyData.canLay0] using e))
  | _, _, .dK _ _, e => by simp [PyData.canLay0] at e
  | _, _, .dT _ _, e => by simp [PyData.canLay0] at e
theorem DrA.dp {K : PySem.W.Frag} {H : Hp} : ∀ {v : List V} {d : List D}, DrA K H v d → PyData.canLayAll0 d = true → DpAll K H v d
  | _, _, .nil, _ => .nil
  | _, _, .cons h1 h2, e => by
    simp only [PyData.canLayAll0, Bool.and_eq_true] at e
    exact .cons (Dr.dp h1 e.1) (DrA.dp h2 e.2)
end
theorem Sh.dp {K : PySem.W.Frag} {M : Mk} {H : Hp} {v : V} {d : D} (h : Sh K M H v d) (e : SeqAt.shaped d = true) : Dp K H v d := h.all.dp (SeqAt.canLay_of_shaped e)

theorem os_eq {K : PySem.W.Frag} : OpS K (rEqD K) fun x y => cop .eq x y >>= fun z => plain (.bool z) := by
  intro fx M σ r H u v x y z Q S hu hv e k
  obtain ⟨b, e1, e2⟩ := R.bind_ok e
  have e1 : (if (SeqAt.shaped x && SeqAt.shaped y) = true then R.ok (PyData.eqv x y) else .bad) = R.ok b := e1
  split at e1
  · rename_i h
    rw [Bool.and_eq_true] at h
    cases e1
    cases e2
    exact ⟨x, y, hu.dp h.1, hv.dp h.2, h.1, h.2, k _ _ _ (.flat S (.bl _))⟩
  · cases e1
theorem os_ne {K : PySem.W.Frag} : OpS K (rNeD K) fun x y => cop .ne x y >>= fun z => plain (.bool z) := by
  intro fx M σ r H u v x y z Q S hu hv e k
  obtain ⟨b, e1, e2⟩ := R.bind_ok e
  have e1 : (if (SeqAt.shaped x && SeqAt.shaped y) = true then R.ok (!PyData.eqv x y) else .bad) = R.ok b := e1
  split at e1
  · rename_i h
    rw [Bool.and_eq_true] at h
    cases e1
    cases e2
    exact ⟨x, y, hu.dp h.1, hv.dp h.2, h.1, h.2, k _ _ _ (.flat S (.bl _))⟩
  · cases e1

/-- an order of ints, and of tuples -/
def rOrd (K : PySem.W.Frag) (f : Int → Int → Bool) (g : D → D → Bool) : R2 := fun x y H Q => rI0 (fun i j => .bl (f i j)) x y H Q ∨
  ∃ xs ys, Dp K H x (.tuple xs) ∧ Dp K H y (.tuple ys) ∧ PySem.W.alike (.tuple xs) (.tuple ys) = true ∧ SeqAt.shaped (.tuple xs) = true ∧ Q (.bl (g (.tuple xs) (.tuple ys))) H
theorem op_ord {op : CmpOp} {f : Int → Int → Bool} {g : D → D → Bool} (hu : X.A.units + 64 < cLine) (hi : OpR X (compareOp op) (rI0 fun i j => .bl (f i j)))
    (hd : ∀ {prog : Program} {w : World} {A : Around} {E : Value → Shared → Prop} {s : Shared} {a b : Value} {da db : PyData} {as bs : List Addr} {Q : Value → Shared → Prop}, Reads s.heap a da as → Reads s.heap b db bs → PySem.W.alike da db = true → da ≠ .none → A.units + min da.depth db.depth < cLine → Q (.bool (g da db)) s → wpAny (model prog w) A (compareOp op a b) Q E s) :
    OpR X (compareOp op) (rOrd X.K f g) := by
  refine hi.or ?_
  intro pins s σ H x y v u Q I rx ry h
  obtain ⟨xs, ys, h1, h2, h3, h4, q⟩ := h
  obtain ⟨as, r1⟩ := Dp.reads I _ x v h1 rx
  obtain ⟨bs, r2⟩ := Dp.reads I _ y u h2 ry
  exact hd r1 r2 h3 (fun z => by cases z) (SeqAt.room_of_shaped h4 hu) ⟨.bl _, H, I, rfl, q⟩
theorem os_ord {K : PySem.W.Frag} {o : COp} {f : Int → Int → Bool} {g : D → D → Bool} (ho : ∀ x y, cop o x y = ordD f g x y) : OpS K (rOrd K f g) fun x y => cop o x y >>= fun z => plain (.bool z) := by
  intro fx M σ r H u v x y z Q S hu hv e k
  obtain ⟨b, e1, e2⟩ := R.bind_ok e
  rw [ho] at e1
  cases e2
  cases x with
  | int i =>
    cases y with
    | int j =>
      cases e1
      rw [hu.int, hv.int]
      exact .inl ⟨i, j, rfl, rfl, k _ _ _ (.flat S (.bl _))⟩
    | _ => cases e1
  | tuple xs =>
    cases y with
    | tuple ys =>
      have e1 : (if (PySem.W.alike (.tuple xs) (.tuple ys) && (SeqAt.shaped (.tuple xs) && SeqAt.shaped (.tuple ys))) = true then R.ok (g (.tuple xs) (.tuple ys)) else .bad) = R.ok b := e1
      split at e1
      · rename_i h
        rw [Bool.and_eq_true, Bool.and_eq_true] at h
        cases e1
        exact .inr ⟨xs, ys, hu.dp h.2.1, hv.dp h.2.2, h.1, h.2.1, k _ _ _ (.flat S (.bl _))⟩
      · cases e1
    | _ => cases e1
  | _ => cases e1
theorem op_ltD (hu : X.A.units + 64 < cLine) : OpR X (compareOp .Lt) (rOrd X.K (fun i j => decide (i < j)) fun x y => PySem.W.dataLt x y) := op_ord hu op_lt PySem.W.lt_data
theorem op_leD (hu : X.A.units + 64 < cLine) : OpR X (compareOp .LtE) (rOrd X.K (fun i j => decide (i ≤ j)) fun x y => !PySem.W.dataLt y x) := op_ord hu op_le PySem.W.le_data
theorem op_gtD (hu : X.A.units + 64 < cLine) : OpR X (compareOp .Gt) (rOrd X.K (fun i j => decide (j < i)) fun x y => PySem.W.dataLt y x) := op_ord hu op_gt PySem.W.gt_data
theorem op_geD (hu : X.A.units + 64 < cLine) : OpR X (compareOp .GtE) (rOrd X.K (fun i j => decide (j ≤ i)) fun x y => !PySem.W.dataLt x y) := op_ord hu op_ge PySem.W.ge_data

/-! ### in, not in: lists, tuples, dicts -/
/-- a key's value -/
def KeyV (H : Hp) (y : V) (k : D) : Prop := (∃ q, k = kD q ∧ y = kV q) ∨ ∃ (b : Addr) (ks : List Key), k = .tuple (ks.map kD) ∧ y = .ref b ∧ H b = some (.tup (ks.map kV))
def rInN (K : PySem.W.Frag) (n : Bool) : R2 := fun x y H Q =>
  (∃ d ds, Dp K H x d ∧ (Dp K H y (.list ds) ∨ Dp K H y (.tuple ds)) ∧ SeqAt.shaped d = true ∧ SeqAt.shaped (.list ds) = true ∧ Q (.bl (n != ds.any fun z => PyData.eqv z d)) H) ∨
  ∃ a o, y = .ref a ∧ DGet H a x o ∧ Q (.bl (n != o.isSome)) H
theorem op_inN (hu : X.A.units + 65 < cLine) : OpR X (compareOp .In) (rInN X.K false) := by
  intro pins s σ H x y v u Q I rx ry h
  rcases h with ⟨d, ds, h1, h2, h3, h4, q⟩ | ⟨a, o, rfl, g, q⟩
  · obtain ⟨as, r1⟩ := Dp.reads I _ x v h1 rx
    rcases h2 with h2 | h2
    · obtain ⟨bs, r2⟩ := Dp.reads I _ y u h2 ry
      exact SeqAt.in_list_reads r2 r1 (SeqAt.canLay_of_shaped h4) (SeqAt.canLay_of_shaped h3) (PyProof.Rows.room_in_shaped h3 hu) ⟨.bl _, H, I, rfl, by simpa using q⟩
    · obtain ⟨bs, r2⟩ := Dp.reads I _ y u h2 ry
      exact SeqAt.in_tuple_reads r2 r1 (SeqAt.canLay_of_shaped h4) (SeqAt.canLay_of_shaped h3) (PyProof.Rows.room_in_shaped h3 hu) ⟨.bl _, H, I, rfl, by simpa using q⟩
  · cases ry
    exact d_in (by omega) I g rx fun s' I' => ⟨.bl _, H, I', rfl, by simpa using q⟩
theorem op_notinN (hu : X.A.units + 65 < cLine) : OpR X (compareOp .NotIn) (rInN X.K true) := by
  intro pins s σ H x y v u Q I rx ry h
  rcases h with ⟨d, ds, h1, h2, h3, h4, q⟩ | ⟨a, o, rfl, g, q⟩
  · obtain ⟨as, r1⟩ := Dp.reads I _ x v h1 rx
    rcases h2 with h2 | h2
    · obtain ⟨bs, r2⟩ := Dp.reads I _ y u h2 ry
      exact SeqAt.notIn_list_reads r2 r1 (SeqAt.canLay_of_shaped h4) (SeqAt.canLay_of_shaped h3) (PyProof.Rows.room_in_shaped h3 hu) ⟨.bl _, H, I, rfl, by simpa using q⟩
    · obtain ⟨bs, r2⟩ := Dp.reads I _ y u h2 ry
      exact SeqAt.notIn_tuple_reads r2 r1 (SeqAt.canLay_of_shaped h4) (SeqAt.canLay_of_shaped h3) (PyProof.Rows.room_in_shaped h3 hu) ⟨.bl _, H, I, rfl, by simpa using q⟩
  · cases ry
    exact d_notIn (by omega) I g rx fun s' I' => ⟨.bl _, H, I', rfl, by simpa using q⟩
end

section
variable {X : Cx} {K : PySem.W.Frag}
theorem os_in {n : Bool} {o : COp} (ho : ∀ x y, cop o x y = (isinD x y >>= fun b => .ok (n != b))) : OpS K (rInN K n) fun x y => cop o x y >>= fun z => plain (.bool z) := by
  intro fx M σ r H u v x y z Q S hu hv e k
  obtain ⟨b, e1, e2⟩ := R.bind_ok e
  rw [ho] at e1
  obtain ⟨c, e0, e1⟩ := R.bind_ok e1
  cases e1
  cases e2
  cases y with
  | list ys =>
    have e0 : (if (SeqAt.shaped x && SeqAt.shaped (.list ys)) = true then R.ok (ys.any fun z => PyData.eqv z x) else .bad) = R.ok c := e0
    split at e0
    · rename_i h
      rw [Bool.and_eq_true] at h
      cases e0
      exact .inl ⟨x, ys, hu.dp h.1, .inl (hv.dp h.2), h.1, h.2, k _ _ _ (.flat S (.bl _))⟩
    · cases e0
  | tuple ys =>
    have e0 : (if (SeqAt.shaped x && SeqAt.shaped (.list ys)) = true then R.ok (ys.any fun z => PyData.eqv z x) else .bad) = R.ok c := e0
    split at e0
    · rename_i h
      rw [Bool.and_eq_true] at h
      cases e0
      exact .inl ⟨x, ys, hu.dp h.1, .inr (hv.dp (d := .tuple ys) h.2), h.1, h.2, k _ _ _ (.flat S (.bl _))⟩
    · cases e0
  | _ => cases e0

/-! ### is, is not -/
def rIs (n : Bool) : R2 := fun x y H Q => (y = .non ∧ Q (.bl (n != decide (x = .non))) H) ∨ ∃ a b, x = .bl a ∧ y = .bl b ∧ Q (.bl (n != decide (a = b))) H
theorem op_isB : OpR X (compareOp .Is) (rIs false) := by
  intro pins s σ H x y v u Q I rx ry h
  rcases h with ⟨rfl, q⟩ | ⟨a, b, rfl, rfl, q⟩
  · exact op_isN pins s σ H x .non v u Q I rx ry ⟨rfl, by simpa using q⟩
  · exact op_is_bl pins s σ H _ _ v u Q I rx ry ⟨a, b, rfl, rfl, by simpa using q⟩
theorem op_isnotB : OpR X (compareOp .IsNot) (rIs true) := by
  intro pins s σ H x y v u Q I rx ry h
  rcases h with ⟨rfl, q⟩ | ⟨a, b, rfl, rfl, q⟩
  · exact op_notN pins s σ H x .non v u Q I rx ry ⟨rfl, by simpa using q⟩
  · exact op_isnot_bl pins s σ H _ _ v u Q I rx ry ⟨a, b, rfl, rfl, by simpa using q⟩
theorem os_is {n : Bool} {o : COp} (ho : ∀ x y, cop o x y = (isD x y >>= fun b => .ok (n != b))) : OpS K (rIs n) fun x y => cop o x y >>= fun z => plain (.bool z) := by
  intro fx M σ r H u v x y z Q S hu hv e k
  obtain ⟨b, e1, e2⟩ := R.bind_ok e
  rw [ho] at e1
  obtain ⟨c, e0, e1⟩ := R.bind_ok e1
  cases e1
  cases e2
  have fin : ∀ w : Bool, c = w → (∀ q : V, True) → Q (.bl (n != w)) H := fun w h _ => by
    subst h
    exact k _ _ _ (.flat S (.bl _))
  cases y with
  | none =>
    rw [hv.none]
    refine .inl ⟨rfl, ?_⟩
    have nn : ∀ {d : D}, d ≠ .none → Sh K M H u d → decide (u = V.non) = false := fun {d} hd h => decide_eq_false fun z => by
      have a := h.all
      rw [z] at a
      cases a
      exact hd rfl
    cases x with
    | none =>
      cases e0
      rw [hu.none]
      exact fin true rfl fun _ => trivial
    | _ =>
      cases e0
      rw [nn (fun z => by cases z) hu]
      exact fin false rfl fun _ => trivial
  | bool b =>
    cases x with
    | none => cases e0
    | bool a =>
      cases e0
      rw [hu.bool, hv.bool]
      refine .inr ⟨a, b, rfl, rfl, ?_⟩
      have q := fin (a == b) rfl fun _ => trivial
      rw [Bool.beq_eq_decide_eq] at q
      exact q
    | _ => cases e0
  | _ => cases x <;> cases e0
end
end Pv

end
section
/-! More expressions: constants, displays, truth, tests, items, slices, built-in functions. -/
namespace Pv
open PySem PySem.Spec L2

section
variable {K : PySem.W.Frag} {fx : Fx} {σ : L2.St} {M M' : Mk} {H H' : Hp} {r r' : Env} {v : V} {fr : Bool} {d : D}
/-- the value behind an expression, shared -/
theorem EPost.shared {M0 : Mk} {r0 : Env} {H0 : Hp} (S0 : SRep K fx M0 σ H0 r0) (h : EPost K fx σ M0 r0 H0 v fr d r' M' H') :
    ∃ M2, SRep K fx M2 σ H' r' ∧ Step σ M0 r0 H0 M2 r' H' ∧ Dr K (msk M2 H') v d ∧ Lt (msk M' H') (msk M2 H') :=
  h.val.share h.rep h.step fun z a e => by
    have hn := h.new z a e
    cases q : M0 a with
    | false => rfl
    | true => exact absurd hn (S0.trk a q)
theorem truV (h : Sh K M H v d) {t : Bool} (e : truthR d = .ok t) : TruV K v H t := by
  cases d with
  | none => rw [h.none]; cases e; rfl
  | bool b => rw [h.bool]; cases e; rfl
  | int i => rw [h.int]; cases e; rfl
  | str x =>
    rw [h.str]
    simp only [truthR] at e
    split at e
    · rename_i z
      cases e
      refine ⟨by rw [← szl]; exact z, ?_⟩
      show (!(x.length == 0)) = !((x.length : Int) == 0)
      congr 1
      rw [Bool.eq_iff_iff, beq_iff_eq, beq_iff_eq]
      omega
    · cases e
  | list ds =>
    obtain ⟨a, xs, rfl, h1, h2⟩ := h.list
    cases e
    refine .inl ⟨xs, .inl h1, ?_⟩
    cases h2 <;> rfl
  | tuple ds =>
    obtain ⟨a, xs, rfl, h1, _, h2⟩ := h.tuple
    cases e
    refine .inr (.inl ⟨xs, h1, ?_⟩)
    cases h2 <;> rfl
  | dict kvs => cases e
end

section
variable {X : Cx} {e a b : Expr} {ca cb c : CE} {pos : Pos}
theorem ge_k {w : V} {d : D} (h : PE X e (tC w)) (hd : ∀ H, Dr X.K H w d) : GE X e (.k d) :=
  .of (fun _ z => by cases z) <| h.mono fun σ H Q ⟨fx, M, r, x, S, ex, k⟩ => by
    cases ex
    exact k w M H (.flat S (hd _))

/-! ### several values -/
def TV1 (K : PySem.W.Frag) (cs : CEs) : TA := fun σ H Q => ∃ fx M r x, SRep K fx M σ H r ∧ evEs cs r = .ok x ∧ ∀ vs M' H', SRep K fx M' σ H' x.2 → Step σ M r H M' x.2 H' → DrA K (msk M' H') vs x.1 → Q vs H'
inductive OVals (K : PySem.W.Frag) (fx : Fx) (σ : L2.St) (M : Mk) (H : Hp) (r : Env) : List V → List (Nat ⊕ D) → Prop
  | nil : OVals K fx σ M H r [] []
  | cons {v : V} {vs : List V} {x : Nat ⊕ D} {xs : List (Nat ⊕ D)} : OVal K fx σ M H r v x → OVals K fx σ M H r vs xs → OVals K fx σ M H r (v :: vs) (x :: xs)
theorem OVals.step {K : PySem.W.Frag} {fx : Fx} {σ : L2.St} {M M' : Mk} {H H' : Hp} {r r' : Env} (s : Step σ M r H M' r' H') : ∀ {vs : List V} {xs : List (Nat ⊕ D)}, OVals K fx σ M H r vs xs → OVals K fx σ M' H' r' vs xs
  | _, _, .nil => .nil
  | _, _, .cons h t => .cons (h.step s) (OVals.step s t)
inductive ShA (K : PySem.W.Frag) (M : Mk) (H : Hp) : List V → List D → Prop
  | nil : ShA K M H [] []
  | cons {v : V} {vs : List V} {d : D} {ds : List D} : Sh K M H v d → ShA K M H vs ds → ShA K M H (v :: vs) (d :: ds)
theorem OVals.sh {K : PySem.W.Frag} {fx : Fx} {σ : L2.St} {M : Mk} {H : Hp} {r : Env} (S : SRep K fx M σ H r) : ∀ {vs : List V} {xs : List (Nat ⊕ D)} {ds : List D}, OVals K fx σ M H r vs xs → looks r xs = .ok ds → ShA K M H vs ds
  | _, _, _, .nil, e => by cases e; exact .nil
  | _, _, _, .cons h t, e => by
    obtain ⟨d, e1, e2⟩ := R.bind_ok e
    obtain ⟨ds, e3, e4⟩ := R.bind_ok e2
    cases e4
    exact .cons (h.sh S e1) (OVals.sh S t e3)
def TOs1 (K : PySem.W.Frag) (cs : CEs) : TA := fun σ H Q => ∃ fx M r x, SRep K fx M σ H r ∧ evOs cs r = .ok x ∧ ∀ vs M' H', SRep K fx M' σ H' x.2 → Step σ M r H M' x.2 H' → OVals K fx σ M' H' x.2 vs x.1 → Q vs H'
inductive VReps (K : PySem.W.Frag) (fx : Fx) (σ : L2.St) (M : Mk) (H : Hp) (r : Env) : List V → List (Bool × D) → Prop
  | nil : VReps K fx σ M H r [] []
  | cons {v : V} {vs : List V} {x : Bool × D} {xs : List (Bool × D)} : VRep K fx σ M H r v x.1 x.2 → VReps K fx σ M H r vs xs → VReps K fx σ M H r (v :: vs) (x :: xs)
theorem VReps.step {K : PySem.W.Frag} {fx : Fx} {σ : L2.St} {M M' : Mk} {H H' : Hp} {r r' : Env} (s : Step σ M r H M' r' H') : ∀ {vs : List V} {xs : List (Bool × D)}, VReps K fx σ M H r vs xs → VReps K fx σ M' H' r' vs xs
  | _, _, .nil => .nil
  | _, _, .cons h t => .cons (h.step s) (VReps.step s t)
/-- the new ones among them lie apart -/
def Apart : List V → List (Bool × D) → Prop
  | v :: vs, x :: xs => ((x.1 && isMut x.2) = true → ∀ (j : Nat) (w : V) (y : Bool × D), vs[j]? = some w → xs[j]? = some y → (y.1 && isMut y.2) = true → v ≠ w) ∧ Apart vs xs
  | _, _ => True
def TFs1 (K : PySem.W.Frag) (cs : CEs) : TA := fun σ H Q => ∃ fx M r x, SRep K fx M σ H r ∧ evFs cs r = .ok x ∧ ∀ vs M' H', SRep K fx M' σ H' x.2 → Step σ M r H M' x.2 H' → VReps K fx σ M' H' x.2 vs x.1 → Apart vs x.1 →
  (∀ (j : Nat) (w : V) (y : Bool × D), vs[j]? = some w → x.1[j]? = some y → (y.1 && isMut y.2) = true → ∀ a, w = .ref a → H a = none) → Q vs H'
structure GV (X : Cx) (es : List Expr) (cs : CEs) : Prop where
  ev : PA X es (TV1 X.K cs)
  os : PA X es (TOs1 X.K cs)
  fs : PA X es (TFs1 X.K cs)
theorem gv_nil : GV X [] .nil := by
  refine ⟨pa_nil.mono fun σ H Q ⟨fx, M, r, x, S, ex, k⟩ => ?_, pa_nil.mono fun σ H Q ⟨fx, M, r, x, S, ex, k⟩ => ?_, pa_nil.mono fun σ H Q ⟨fx, M, r, x, S, ex, k⟩ => ?_⟩
  · cases ex; exact k [] M H S .refl .nil
  · cases ex; exact k [] M H S .refl .nil
  · cases ex
    exact k [] M H S .refl .nil trivial fun j w y e => by simp at e
theorem gv_cons {es : List Expr} {cs : CEs} (ha : GE X e c) (hr : GV X es cs) (hs : starEach (e :: es) X.env = (false, eval e X.env) :: starEach es X.env := by rfl) : GV X (e :: es) (.cons c cs) := by
  refine ⟨(pa_cons ha.ev hr.ev hs).mono fun σ H Q ⟨fx, M, r, x, S, ex, k⟩ => ?_, (pa_cons ha.op hr.os hs).mono fun σ H Q ⟨fx, M, r, x, S, ex, k⟩ => ?_, (pa_cons ha.ev hr.fs hs).mono fun σ H Q ⟨fx, M, r, x, S, ex, k⟩ => ?_⟩
  · rw [evEs] at ex
    obtain ⟨y, e1, e2⟩ := R.bind_ok ex
    obtain ⟨z, e3, e4⟩ := R.bind_ok e2
    cases e4
    refine ⟨fx, M, r, y, S, e1, fun v M1 H1 p => ?_⟩
    obtain ⟨M2, S2, s2, h2, _⟩ := p.shared S
    exact ⟨fx, M2, y.2.2, z, S2, e3, fun vs M3 H3 S3 s3 h3 => k _ _ _ S3 (s2.trans s3) (.cons (h2.mono s3.lt) h3)⟩
  · rw [evOs] at ex
    obtain ⟨y, e1, e2⟩ := R.bind_ok ex
    obtain ⟨z, e3, e4⟩ := R.bind_ok e2
    cases e4
    exact ⟨fx, M, r, y, S, e1, fun v M1 H1 p => ⟨fx, M1, y.2, z, p.rep, e3, fun vs M3 H3 S3 s3 h3 => k _ _ _ S3 (p.step.trans s3) (.cons (p.val.step s3) h3)⟩⟩
  · rw [evFs] at ex
    obtain ⟨y, e1, e2⟩ := R.bind_ok ex
    obtain ⟨z, e3, e4⟩ := R.bind_ok e2
    cases e4
    refine ⟨fx, M, r, y, S, e1, fun v M1 H1 p => ⟨fx, M1, y.2.2, z, p.rep, e3, fun vs M3 H3 S3 s3 h3 ap nw => k _ _ _ S3 (p.step.trans s3) (.cons (p.val.step s3) h3) ⟨fun hv j w u hw hu hm q => ?_, ap⟩ fun j w u hw hu hm a ea => ?_⟩⟩
    · subst q
      have hv' := p.val
      unfold VRep at hv'
      rw [if_pos hv] at hv'
      obtain ⟨a, rfl, h1, h2, _⟩ := hv'
      exact h2.there (nw j _ u hw hu hm a rfl)
    · cases j with
      | zero =>
        simp at hw hu
        subst hw hu
        exact p.new hm a ea
      | succ j =>
        refine Classical.byContradiction fun g => p.step.all a g (nw j w u (by simpa using hw) (by simpa using hu) hm a ea)

theorem evEs_len : ∀ {cs : CEs} {r : Env} {x : List D × Env}, evEs cs r = .ok x → x.1.length = cs.length
  | .nil, r, x, e => by rw [evEs] at e; cases e; rfl
  | .cons c cs, r, x, e => by
    rw [evEs] at e
    obtain ⟨y, e1, e2⟩ := R.bind_ok e
    obtain ⟨z, e3, e4⟩ := R.bind_ok e2
    cases e4
    show z.1.length + 1 = cs.length + 1
    rw [evEs_len e3]
theorem ge_tup {es : List Expr} {cs : CEs} {x1} (h : GV X es cs) (hl : decide (cs.length ≤ 1000) = true := by rfl) : GE X (.Tuple es x1 pos) (.tup cs) :=
  .of (fun _ z => by cases z) <| (pe_tup h.ev).mono fun σ H Q ⟨fx, M, r, x, S, ex, k⟩ => by
    rw [evE] at ex
    obtain ⟨y, e1, e2⟩ := R.bind_ok ex
    cases e2
    refine ⟨fx, M, r, y, S, e1, fun vs M1 H1 S1 s1 h1 => ⟨?_, fun p hp => k _ _ _ (.after s1 (.newT S1 hp h1))⟩⟩
    rw [h1.length, evEs_len e1, sizeLine_eq]
    have := of_decide_eq_true hl
    omega
theorem ge_lst {es : List Expr} {cs : CEs} (h : GV X es cs) (hl : decide (cs.length ≤ 1000) = true := by rfl) : GE X (.List es pos) (.lst cs) :=
  .of (fun _ z => by cases z) <| (pe_lst h.ev).mono fun σ H Q ⟨fx, M, r, x, S, ex, k⟩ => by
    rw [evE] at ex
    obtain ⟨y, e1, e2⟩ := R.bind_ok ex
    cases e2
    refine ⟨fx, M, r, y, S, e1, fun vs M1 H1 S1 s1 h1 => ⟨?_, fun p hp => k _ _ _ (.after s1 (.newL S1 hp h1))⟩⟩
    rw [h1.length, evEs_len e1, sizeLine_eq]
    have := of_decide_eq_true hl
    omega

/-! ### unary -/
theorem ge_neg (ha : GE X a ca) : GE X (.UnaryOp .USub a pos) (.un .neg ca) :=
  .of (fun _ z => by cases z) <| (pe_un un_neg ha.op).mono fun σ H Q ⟨fx, M, r, x, S, ex, k⟩ => by
    rw [evE] at ex
    obtain ⟨y, e1, e2⟩ := R.bind_ok ex
    obtain ⟨u, e3, e4⟩ := R.bind_ok e2
    obtain ⟨z, e5, e6⟩ := R.bind_ok e4
    cases e6
    refine ⟨fx, M, r, y, S, e1, fun v M1 H1 p => ?_⟩
    have h := p.val.sh p.rep e3
    cases u <;> first | cases e5 | skip
    exact ⟨_, h.int, k _ _ _ (.after p.step (.flat p.rep (.int _)))⟩
theorem ge_inv (ha : GE X a ca) : GE X (.UnaryOp .Invert a pos) (.un .inv ca) :=
  .of (fun _ z => by cases z) <| (pe_un un_inv ha.op).mono fun σ H Q ⟨fx, M, r, x, S, ex, k⟩ => by
    rw [evE] at ex
    obtain ⟨y, e1, e2⟩ := R.bind_ok ex
    obtain ⟨u, e3, e4⟩ := R.bind_ok e2
    obtain ⟨z, e5, e6⟩ := R.bind_ok e4
    cases e6
    refine ⟨fx, M, r, y, S, e1, fun v M1 H1 p => ?_⟩
    have h := p.val.sh p.rep e3
    cases u <;> first | cases e5 | skip
    exact ⟨_, h.int, k _ _ _ (.after p.step (.flat p.rep (.int _)))⟩

/-! ### and, or by value -/
variable {rest : List Expr}
theorem ge_one {op} (h : GE X a c) : GE X (.BoolOp op [a] pos) c := ⟨pe_one h.ev, pe_one h.op⟩
theorem ge_and (ha : GE X a ca) (hb : GE X (.BoolOp .And (b :: rest) pos) cb) : GE X (.BoolOp .And (a :: b :: rest) pos) (.land ca cb) :=
  .of (fun _ z => by cases z) <| (pe_andT ha.ev hb.ev).mono fun σ H Q ⟨fx, M, r, x, S, ex, k⟩ => by
    rw [evE] at ex
    obtain ⟨y, e1, e2⟩ := R.bind_ok ex
    obtain ⟨t, e3, e4⟩ := R.bind_ok e2
    refine ⟨fx, M, r, y, S, e1, fun v M1 H1 p => ?_⟩
    obtain ⟨M2, S2, s2, h2, _⟩ := p.shared S
    refine ⟨t, truV p.val.rd e3, ?_⟩
    cases t with
    | true => exact ⟨fx, M2, y.2.2, x, S2, e4, fun v' M3 H3 p3 => k _ _ _ (p3.after s2)⟩
    | false =>
      cases e4
      exact k _ _ _ (.after s2 (.flat S2 h2))
theorem ge_or (ha : GE X a ca) (hb : GE X (.BoolOp .Or (b :: rest) pos) cb) : GE X (.BoolOp .Or (a :: b :: rest) pos) (.lor ca cb) :=
  .of (fun _ z => by cases z) <| (pe_orT ha.ev hb.ev).mono fun σ H Q ⟨fx, M, r, x, S, ex, k⟩ => by
    rw [evE] at ex
    obtain ⟨y, e1, e2⟩ := R.bind_ok ex
    obtain ⟨t, e3, e4⟩ := R.bind_ok e2
    refine ⟨fx, M, r, y, S, e1, fun v M1 H1 p => ?_⟩
    obtain ⟨M2, S2, s2, h2, _⟩ := p.shared S
    refine ⟨t, truV p.val.rd e3, ?_⟩
    cases t with
    | false => exact ⟨fx, M2, y.2.2, x, S2, e4, fun v' M3 H3 p3 => k _ _ _ (p3.after s2)⟩
    | true =>
      cases e4
      exact k _ _ _ (.after s2 (.flat S2 h2))

/-! ### tests -/
structure GT (X : Cx) (e : Expr) (c : CT) : Prop where
  pt : PT X e (TT1 X.K c)
structure GW (X : Cx) (e : Expr) (c : CT) : Prop where
  pw : PW X e (TT1 X.K c)
variable {t t1 t2 : CT}
theorem gt_val (h : GE X a ca) (he : ∀ whole, isTrue a X.env whole = (do let v ← whole; standAt a.pos; holding [v] (truthy v)) := by intro _; rfl) : GT X a (.val ca) :=
  ⟨(pt_truth h.op he).mono fun σ H Q ⟨fx, M, r, x, S, ex, k⟩ => by
    rw [evT] at ex
    obtain ⟨y, e1, e2⟩ := R.bind_ok ex
    obtain ⟨u, e3, e4⟩ := R.bind_ok e2
    obtain ⟨q, e5, e6⟩ := R.bind_ok e4
    cases e6
    exact ⟨fx, M, r, y, S, e1, fun v M1 H1 p => ⟨_, truV (p.val.sh p.rep e3) e5, k _ _ p.rep p.step⟩⟩⟩
theorem gt_cmp {o : COp} {op : CmpOp} {rr : R2} (ho : OpR X (compareOp op) rr) (hs : OpS X.K rr fun x y => cop o x y >>= fun z => plain (.bool z)) (ha : GE X a ca) (hb : GE X b cb) (hm : behindInMarks op b = false) : GT X (.Compare a [op] [b] pos) (.val (.cmp o ca cb)) :=
  ⟨(pt_cmpR ho ha.op hb.op hm).mono fun σ H Q ⟨fx, M, r, x, S, ex, k⟩ => by
    rw [evT, opnd_val (fun _ z => by cases z), evE] at ex
    obtain ⟨w, ew, ex⟩ := R.bind_ok ex
    obtain ⟨w', ew', e0⟩ := R.bind_ok ew
    cases e0
    obtain ⟨y, e1, e2⟩ := R.bind_ok ew'
    obtain ⟨z, e3, e4⟩ := R.bind_ok e2
    obtain ⟨u, e5, e6⟩ := R.bind_ok e4
    obtain ⟨v, e7, e8⟩ := R.bind_ok e6
    obtain ⟨q, e9, e10⟩ := R.bind_ok e8
    cases e10
    cases ex
    refine ⟨fx, M, r, y, S, e1, fun v1 M1 H1 p1 => ⟨fx, M1, y.2, z, p1.rep, e3, fun v2 M2 H2 p2 => ?_⟩⟩
    refine hs fx M2 σ z.2 H2 v1 v2 u v (false, .bool q) _ p2.rep (((p1.val.step p2.step)).sh p2.rep e5) (p2.val.sh p2.rep e7) (by show (cop o u v >>= fun z => plain (.bool z)) = _; rw [e9]; rfl) fun w M3 H3 p3 => ?_
    have hw : w = .bl q := (VRep.rd p3.val).bool
    exact ⟨q, hw, k _ _ p3.rep ((p1.step.trans p2.step).trans p3.step)⟩⟩
theorem gt_not (h : GT X a t) : GT X (.UnaryOp .Not a pos) (.not t) :=
  ⟨(pt_not h.pt).mono fun σ H Q ⟨fx, M, r, x, S, ex, k⟩ => by
    rw [evT] at ex
    obtain ⟨y, e1, e2⟩ := R.bind_ok ex
    cases e2
    exact ⟨fx, M, r, y, S, e1, fun M1 H1 S1 s1 => k _ _ S1 s1⟩⟩
theorem GW.gt (h : GW X a t) : GT X a t := ⟨h.pw.pt⟩
theorem gw_and1 (h : GT X a t) : GW X (.BoolOp .And [a] pos) t := ⟨pw_and1 h.pt⟩
theorem gw_or1 (h : GT X a t) : GW X (.BoolOp .Or [a] pos) t := ⟨pw_or1 h.pt⟩
theorem gw_and (ha : GT X a t1) (hb : GW X (.BoolOp .And (b :: rest) pos) t2) : GW X (.BoolOp .And (a :: b :: rest) pos) (.and t1 t2) :=
  ⟨(pw_and ha.pt hb.pw).mono fun σ H Q ⟨fx, M, r, x, S, ex, k⟩ => by
    rw [evT] at ex
    obtain ⟨y, e1, e2⟩ := R.bind_ok ex
    refine ⟨fx, M, r, y, S, e1, fun M1 H1 S1 s1 => ?_⟩
    cases q : y.1 with
    | true =>
      rw [q] at e2
      exact ⟨fx, M1, y.2, x, S1, e2, fun M2 H2 S2 s2 => k _ _ S2 (s1.trans s2)⟩
    | false =>
      rw [q] at e2
      cases e2
      exact k _ _ S1 s1⟩
theorem gw_or (ha : GT X a t1) (hb : GW X (.BoolOp .Or (b :: rest) pos) t2) : GW X (.BoolOp .Or (a :: b :: rest) pos) (.or t1 t2) :=
  ⟨(pw_or ha.pt hb.pw).mono fun σ H Q ⟨fx, M, r, x, S, ex, k⟩ => by
    rw [evT] at ex
    obtain ⟨y, e1, e2⟩ := R.bind_ok ex
    refine ⟨fx, M, r, y, S, e1, fun M1 H1 S1 s1 => ?_⟩
    cases q : y.1 with
    | false =>
      rw [q] at e2
      exact ⟨fx, M1, y.2, x, S1, e2, fun M2 H2 S2 s2 => k _ _ S2 (s1.trans s2)⟩
    | true =>
      rw [q] at e2
      cases e2
      exact k _ _ S1 s1⟩
/-- not x as a value -/
theorem ge_not (h : GE X a ca) : GE X (.UnaryOp .Not a pos) (.tst (.not (.val ca))) :=
  .of (fun _ z => by cases z) <| (pe_notT h.op).mono fun σ H Q ⟨fx, M, r, x, S, ex, k⟩ => by
    rw [evE, evT, evT] at ex
    obtain ⟨y, e1, e2⟩ := R.bind_ok ex
    cases e2
    obtain ⟨z, e3, e4⟩ := R.bind_ok e1
    cases e4
    obtain ⟨u, e5, e6⟩ := R.bind_ok e3
    obtain ⟨w, e7, e8⟩ := R.bind_ok e6
    obtain ⟨q, e9, e10⟩ := R.bind_ok e8
    cases e10
    exact ⟨fx, M, r, u, S, e5, fun v M1 H1 p => ⟨_, truV (p.val.sh p.rep e7) e9, k _ _ _ (.after p.step (.flat p.rep (.bl _)))⟩⟩
theorem ge_ite {f : Expr} (hc : GT X f t) (ha : GE X a ca) (hb : GE X b cb) : GE X (.IfExp f a b pos) (.ite t ca cb) :=
  .of (fun _ z => by cases z) <| (pe_ifExp hc.pt ha.ev hb.ev).mono fun σ H Q ⟨fx, M, r, x, S, ex, k⟩ => by
    rw [evE] at ex
    obtain ⟨y, e1, e2⟩ := R.bind_ok ex
    refine ⟨fx, M, r, y, S, e1, fun M1 H1 S1 s1 => ?_⟩
    cases q : y.1 with
    | true =>
      rw [q] at e2
      exact ⟨fx, M1, y.2, x, S1, e2, fun v M2 H2 p2 => k _ _ _ (p2.after s1)⟩
    | false =>
      rw [q] at e2
      exact ⟨fx, M1, y.2, x, S1, e2, fun v M2 H2 p2 => k _ _ _ (p2.after s1)⟩
end
end Pv

end
section
/-! Items, slices, built-in functions, isinstance, methods. -/
namespace Pv
open PySem PySem.Spec L2

section
variable {X : Cx} {e a b : Expr} {ca cb c : CE} {pos : Pos}
theorem ixD_eq (n : Nat) (i : Int) : ixD n i = ixN n i := rfl
theorem atI_of {K : PySem.W.Frag} {H : Hp} {xs : List V} {ds : List D} {i : Int} {d : D} (h : DrA K H xs ds) (e : (ixD ds.length i).bind (ds[·]?) = some d) : ∃ v, atI xs i = some v ∧ Dr K H v d := by
  obtain ⟨j, e1, e2⟩ := Option.bind_eq_some_iff.mp e
  obtain ⟨v, h1, h2⟩ := h.getR e2
  refine ⟨v, ?_, h2⟩
  unfold atI
  rw [h.length, ← ixD_eq, e1]
  exact h1
theorem ge_sub (ha : GE X a ca) (hb : GE X b cb) (hp : PlainIx b := by exact fun _ _ => rfl) : GE X (.Subscript a b pos) (.sub ca cb) :=
  .of (fun _ z => by cases z) <| (pe_ix (ix_list.or ix_tup) ha.op hb.op hp).mono fun σ H Q ⟨fx, M, r, x, S, ex, k⟩ => by
    rw [evE] at ex
    obtain ⟨y, e1, e2⟩ := R.bind_ok ex
    obtain ⟨z, e3, e4⟩ := R.bind_ok e2
    obtain ⟨u, e5, e6⟩ := R.bind_ok e4
    obtain ⟨w, e7, e8⟩ := R.bind_ok e6
    obtain ⟨q, e9, e10⟩ := R.bind_ok e8
    cases e10
    refine ⟨fx, M, r, y, S, e1, fun v1 M1 H1 p1 => ⟨fx, M1, y.2, z, p1.rep, e3, fun v2 M2 H2 p2 => ?_⟩⟩
    have h1 := (p1.val.step p2.step).sh p2.rep e5
    have h2 := p2.val.sh p2.rep e7
    have s := p1.step.trans p2.step
    cases u with
    | list ds =>
      cases w with
      | int i =>
        obtain ⟨p, xs, rfl, g1, g2⟩ := h1.list
        simp only [subD] at e9
        split at e9
        · rename_i d ed
          cases e9
          obtain ⟨v, g3, g4⟩ := atI_of g2 ed
          exact .inl ⟨p, xs, i, v, rfl, h2.int, .inl g1, g3, k _ _ _ (.after s (.flat p2.rep g4))⟩
        · cases e9
      | _ => cases e9
    | tuple ds =>
      cases w with
      | int i =>
        obtain ⟨p, xs, rfl, g1, _, g2⟩ := h1.tuple
        simp only [subD] at e9
        split at e9
        · rename_i d ed
          cases e9
          obtain ⟨v, g3, g4⟩ := atI_of g2 ed
          exact .inr ⟨p, xs, i, v, rfl, h2.int, g1, g3, k _ _ _ (.after s (.flat p2.rep g4))⟩
        · cases e9
      | _ => cases e9
    | _ => cases e9

/-! ### slices -/
structure GO (X : Cx) (e : Option Expr) (cs : CEs) : Prop where
  po : PO X e (fun σ H Q => ∃ fx M r x, SRep X.K fx M σ H r ∧ evO cs r = .ok x ∧ ∀ M' H', SRep X.K fx M' σ H' x.2 → Step σ M r H M' x.2 H' → Q x.1 H')
theorem PO.mono {e : Option Expr} {t t' : TO} (h : PO X e t) (i : ∀ σ H Q, t' σ H Q → t σ H Q) : PO X e t' := ⟨fun pins s σ H Q I q => h.run pins s σ H Q I (i σ H Q q)⟩
theorem go_none : GO X none .nil := ⟨PO.mono po_none fun σ H Q ⟨fx, M, r, x, S, ex, k⟩ => by
  rw [evO] at ex
  cases ex
  exact k _ _ S .refl⟩
theorem go_some (h : GE X e c) : GO X (some e) (.cons c .nil) := ⟨PO.mono (po_some h.op) fun σ H Q ⟨fx, M, r, x, S, ex, k⟩ => by
  rw [evO] at ex
  obtain ⟨y, e1, e2⟩ := R.bind_ok ex
  obtain ⟨u, e3, e4⟩ := R.bind_ok e2
  refine ⟨fx, M, r, y, S, e1, fun v M1 H1 p => ?_⟩
  have h := p.val.sh p.rep e3
  cases u <;> first | cases e4 | skip
  exact ⟨_, h.int, k _ _ p.rep p.step⟩⟩
theorem cutD_r {K : PySem.W.Frag} {H : Hp} {xs : List V} {ds : List D} (h : DrA K H xs ds) (lo hi : Option Int) : DrA K H (cutV xs lo hi) (cutD ds lo hi) := by
  unfold cutV cutD
  rw [h.length]
  exact (h.drop _).take _
theorem ge_slc {lo hi : Option Expr} {cl ch : CEs} {p2 : Pos} (ha : GE X a ca) (hl : GO X lo cl) (hh : GO X hi ch) : GE X (.Subscript a (.Slice lo hi none p2) pos) (.slc ca cl ch) :=
  .of (fun _ z => by cases z) <| (pe_slice (sl_list.or sl_tupA) ha.op hl.po hh.po).mono fun σ H Q ⟨fx, M, r, x, S, ex, k⟩ => by
    rw [evE] at ex
    obtain ⟨y, e1, e2⟩ := R.bind_ok ex
    obtain ⟨l, e3, e4⟩ := R.bind_ok e2
    obtain ⟨h, e5, e6⟩ := R.bind_ok e4
    obtain ⟨u, e7, e8⟩ := R.bind_ok e6
    obtain ⟨z, e9, e10⟩ := R.bind_ok e8
    cases e10
    refine ⟨fx, M, r, y, S, e1, fun v1 M1 H1 p1 => ⟨fx, M1, y.2, l, p1.rep, e3, fun M2 H2 S2 s2 => ⟨fx, M2, l.2, h, S2, e5, fun M3 H3 S3 s3 => ?_⟩⟩⟩
    have h1 := (p1.val.step (s2.trans s3)).sh S3 e7
    have s := (p1.step.trans s2).trans s3
    cases u with
    | list ds =>
      cases e9
      obtain ⟨p, xs, rfl, g1, g2⟩ := h1.list
      exact .inl ⟨p, xs, rfl, .inl g1, fun q hq => k _ _ _ (.after s (.newL S3 hq (cutD_r g2 _ _)))⟩
    | tuple ds =>
      cases e9
      obtain ⟨p, xs, rfl, g1, g1', g2⟩ := h1.tuple
      refine .inr ⟨p, xs, rfl, g1, fun hw => ?_, fun _ q hq => k _ _ _ (.after s (.newT S3 hq (cutD_r g2 _ _)))⟩
      refine k _ _ _ (.after s (.flat S3 ?_))
      have hc := cutD_r g2 l.1 h.1
      have e0 : cutV xs l.1 h.1 = xs := by
        unfold cutV
        rw [hw.1, hw.2, List.drop_zero, Nat.sub_zero, List.take_length]
      rw [e0] at hc
      exact .tup g1' hc
    | _ => cases e9
/-! ### built-in functions -/
def BiS (K : PySem.W.Frag) (rr : List V → Hp → VK → Prop) (b : Bi) : Prop := ∀ (fx : Fx) (M : Mk) (σ : L2.St) (r : Env) (H : Hp) (vs : List V) (ds : List D) (z : Bool × D) (Q : VK), SRep K fx M σ H r → ShA K M H vs ds → bi b ds = .ok z →
  (∀ w M' H', EPost K fx σ M r H w z.1 z.2 r M' H' → Q w H') → rr vs H Q
variable {x : Str} {es : List Expr} {cs : CEs} {p : Pos} {id T : String}
theorem bi_mono {rr : List V → Hp → VK → Prop} {bb : Bi} (hs : BiS X.K rr bb) (hv : GV X (e :: es) cs) (h : PE X (.Call (.Name x p) (e :: es) [] pos) (tCB rr (TOs1 X.K cs))) : GE X (.Call (.Name x p) (e :: es) [] pos) (.bi bb cs) :=
  .of (fun _ z => by cases z) <| h.mono fun σ H Q ⟨fx, M, r, x, S, ex, k⟩ => by
    rw [evE] at ex
    obtain ⟨y, e1, e2⟩ := R.bind_ok ex
    obtain ⟨ds, e3, e4⟩ := R.bind_ok e2
    obtain ⟨z, e5, e6⟩ := R.bind_ok e4
    cases e6
    exact ⟨fx, M, r, y, S, e1, fun vs M1 H1 S1 s1 o1 => hs fx M1 σ y.2 H1 vs ds z Q S1 (o1.sh S1 e3) e5 fun w M2 H2 p2 => k _ _ _ (p2.after s1)⟩
theorem ge_biB {rr : List V → Hp → VK → Prop} {bb : Bi} (hs : BiS X.K rr bb) (hc : CallR X (.builtin id) rr) (hb : bootBuiltins x = some (.builtin id)) (hn : x ≠ "__name__") (hg : Gl X x) (hm : X.mg x = none) (hv : GV X (e :: es) cs) (hdb : (x == ("__debug__" : Str)) = false)
    (he : starEach (e :: es) X.env = (false, eval e X.env) :: starEach es X.env := by rfl) (hpl : (backTo pos (starEach es X.env)).any (·.1) = false := by rfl) : GE X (.Call (.Name x p) (e :: es) [] pos) (.bi bb cs) :=
  bi_mono hs hv (pe_callB hc hg hm hb hv.os hn hdb he hpl)
theorem ge_biT {rr : List V → Hp → VK → Prop} {bb : Bi} (hs : BiS X.K rr bb) (hc : CallR X (.type T) rr) (hb : bootBuiltins x = some (.type T)) (hn : x ≠ "__name__") (hg : Gl X x) (hm : X.mg x = none) (hv : GV X (e :: es) cs) (hdb : (x == ("__debug__" : Str)) = false)
    (he : starEach (e :: es) X.env = (false, eval e X.env) :: starEach es X.env := by rfl) (hpl : (backTo pos (starEach es X.env)).any (·.1) = false := by rfl) : GE X (.Call (.Name x p) (e :: es) [] pos) (.bi bb cs) :=
  bi_mono hs hv (pe_callTy hc hg hm hb hv.os hn hdb he hpl)

theorem ShA.one {K : PySem.W.Frag} {M : Mk} {H : Hp} {vs : List V} {d : D} (h : ShA K M H vs [d]) : ∃ v, vs = [v] ∧ Sh K M H v d := by
  cases h with
  | cons h t => cases t; exact ⟨_, rfl, h⟩
theorem ShA.two {K : PySem.W.Frag} {M : Mk} {H : Hp} {vs : List V} {d d' : D} (h : ShA K M H vs [d, d']) : ∃ v w, vs = [v, w] ∧ Sh K M H v d ∧ Sh K M H w d' := by
  cases h with
  | cons h t => cases t with | cons h' t => cases t; exact ⟨_, _, rfl, h, h'⟩
theorem bs_len : BiS X.K (fun xs H Q => ∃ x n, xs = [x] ∧ LenV X.K x H n ∧ Q (.int n) H) .len := by
  intro fx M σ r H vs ds z Q S hv hb k
  unfold bi at hb
  split at hb <;> first | (rename_i hn; cases hn; done) | skip
  all_goals try cases hb
  · obtain ⟨v, rfl, h⟩ := hv.one
    obtain ⟨a, ys, rfl, h1, h2⟩ := h.list
    exact ⟨_, _, rfl, .inl ⟨ys, .inl h1, rfl⟩, by rw [h2.length]; exact k _ _ _ (.flat S (.int _))⟩
  · obtain ⟨v, rfl, h⟩ := hv.one
    obtain ⟨a, ys, rfl, h1, _, h2⟩ := h.tuple
    exact ⟨_, _, rfl, .inr ⟨ys, h1, rfl⟩, by rw [h2.length]; exact k _ _ _ (.flat S (.int _))⟩
  · split at hb
    · rename_i hz
      cases hb
      obtain ⟨v, rfl, h⟩ := hv.one
      exact ⟨_, _, rfl, by rw [h.str]; exact ⟨by rw [← szl]; exact hz, rfl⟩, k _ _ _ (.flat S (.int _))⟩
    · cases hb
theorem bs_tuple : BiS X.K (fun xs H Q => ∃ p ys, xs = [.ref p] ∧ ((SqL X.K H p ys ∧ ∀ l, H l = none → Q (.ref l) (upd H l (.tup ys))) ∨ (SqT X.K H p ys ∧ Q (.ref p) H))) .tuple := by
  intro fx M σ r H vs ds z Q S hv hb k
  unfold bi at hb
  split at hb <;> first | (rename_i hn; cases hn; done) | skip
  all_goals try cases hb
  · obtain ⟨v, rfl, h⟩ := hv.one
    obtain ⟨a, ys, rfl, h1, h2⟩ := h.list
    exact ⟨_, _, rfl, .inl ⟨.inl h1, fun l hl => k _ _ _ (.newT S hl h2)⟩⟩
  · obtain ⟨v, rfl, h⟩ := hv.one
    obtain ⟨a, ys, rfl, h1, h1', h2⟩ := h.tuple
    exact ⟨_, _, rfl, .inr ⟨h1, k _ _ _ (.flat S (.tup h1' h2))⟩⟩
theorem bs_list : BiS X.K (fun xs H Q => ∃ p ys, xs = [.ref p] ∧ (SqL X.K H p ys ∨ SqT X.K H p ys) ∧ ∀ l, H l = none → Q (.ref l) (upd H l (.lst ys))) .list := by
  intro fx M σ r H vs ds z Q S hv hb k
  unfold bi at hb
  split at hb <;> first | (rename_i hn; cases hn; done) | skip
  all_goals try cases hb
  · obtain ⟨v, rfl, h⟩ := hv.one
    obtain ⟨a, ys, rfl, h1, h2⟩ := h.list
    exact ⟨_, _, rfl, .inl (.inl h1), fun l hl => k _ _ _ (.newL S hl h2)⟩
  · obtain ⟨v, rfl, h⟩ := hv.one
    obtain ⟨a, ys, rfl, h1, _, h2⟩ := h.tuple
    exact ⟨_, _, rfl, .inr h1, fun l hl => k _ _ _ (.newL S hl h2)⟩
theorem bs_sum : BiS X.K (rSum X.K) .sum := by
  intro fx M σ r H vs ds z Q S hv hb k
  unfold bi at hb
  split at hb <;> first | (rename_i hn; cases hn; done) | skip
  all_goals try cases hb
  split at hb
  · rename_i ns hn
    cases hb
    obtain ⟨v, rfl, h⟩ := hv.one
    obtain ⟨a, ys, rfl, h1, h2⟩ := h.list
    have e := h2.ints hn
    subst e
    exact ⟨_, _, rfl, .inl h1, k _ _ _ (.flat S (.int _))⟩
  · cases hb
theorem foldl_max_le : ∀ (ns : List Int) (n y : Int), y ∈ n :: ns → y ≤ ns.foldl max n
  | [], n, y, h => by
    simp at h
    subst h
    exact Int.le_refl _
  | m :: ns, n, y, h => by
    rw [List.foldl_cons]
    rcases List.mem_cons.mp h with rfl | h
    · exact Int.le_trans (Int.le_max_left y m) (foldl_max_le ns _ _ List.mem_cons_self)
    · rcases List.mem_cons.mp h with rfl | h
      · exact Int.le_trans (Int.le_max_right n y) (foldl_max_le ns _ _ List.mem_cons_self)
      · exact foldl_max_le ns _ _ (List.mem_cons_of_mem _ h)
theorem foldl_max_mem : ∀ (ns : List Int) (n : Int), ns.foldl max n ∈ n :: ns
  | [], n => by simp
  | m :: ns, n => by
    rw [List.foldl_cons]
    have h := foldl_max_mem ns (max n m)
    rcases List.mem_cons.mp h with e | h
    · rw [e]
      rcases Int.le_total n m with g | g
      · rw [Int.max_eq_right g]; simp
      · rw [Int.max_eq_left g]; simp
    · exact List.mem_cons_of_mem _ (List.mem_cons_of_mem _ h)
theorem foldl_min_le : ∀ (ns : List Int) (n y : Int), y ∈ n :: ns → ns.foldl min n ≤ y
  | [], n, y, h => by
    simp at h
    subst h
    exact Int.le_refl _
  | m :: ns, n, y, h => by
    rw [List.foldl_cons]
    rcases List.mem_cons.mp h with rfl | h
    · exact Int.le_trans (foldl_min_le ns _ _ List.mem_cons_self) (Int.min_le_left y m)
    · rcases List.mem_cons.mp h with rfl | h
      · exact Int.le_trans (foldl_min_le ns _ _ List.mem_cons_self) (Int.min_le_right n y)
      · exact foldl_min_le ns _ _ (List.mem_cons_of_mem _ h)
theorem foldl_min_mem : ∀ (ns : List Int) (n : Int), ns.foldl min n ∈ n :: ns
  | [], n => by simp
  | m :: ns, n => by
    rw [List.foldl_cons]
    have h := foldl_min_mem ns (min n m)
    rcases List.mem_cons.mp h with e | h
    · rw [e]
      rcases Int.le_total n m with g | g
      · rw [Int.min_eq_left g]; simp
      · rw [Int.min_eq_right g]; simp
    · exact List.mem_cons_of_mem _ (List.mem_cons_of_mem _ h)
theorem bs_max : BiS X.K (rMax X.K) .max := by
  intro fx M σ r H vs ds z Q S hv hb k
  unfold bi at hb
  split at hb <;> first | (rename_i hn; cases hn; done) | skip
  all_goals try cases hb
  split at hb
  · rename_i n ns hn
    cases hb
    obtain ⟨v, rfl, h⟩ := hv.one
    obtain ⟨a, ys, rfl, h1, h2⟩ := h.list
    have e := h2.ints hn
    subst e
    refine ⟨_, _, rfl, .inl h1, by simp, fun m hm hle => ?_⟩
    have e : m = ns.foldl max n := Int.le_antisymm (foldl_max_le ns n m hm) (hle _ (foldl_max_mem ns n))
    rw [e]
    exact k _ _ _ (.flat S (.int _))
  · cases hb
theorem bs_min : BiS X.K (rMin X.K) .min := by
  intro fx M σ r H vs ds z Q S hv hb k
  unfold bi at hb
  split at hb <;> first | (rename_i hn; cases hn; done) | skip
  all_goals try cases hb
  split at hb
  · rename_i n ns hn
    cases hb
    obtain ⟨v, rfl, h⟩ := hv.one
    obtain ⟨a, ys, rfl, h1, h2⟩ := h.list
    have e := h2.ints hn
    subst e
    refine ⟨_, _, rfl, .inl h1, by simp, fun m hm hle => ?_⟩
    have e : m = ns.foldl min n := Int.le_antisymm (hle _ (foldl_min_mem ns n)) (foldl_min_le ns n m hm)
    rw [e]
    exact k _ _ _ (.flat S (.int _))
  · cases hb
theorem bs_any : BiS X.K (rAny X.K) .any := by
  intro fx M σ r H vs ds z Q S hv hb k
  unfold bi at hb
  split at hb <;> first | (rename_i hn; cases hn; done) | skip
  all_goals try cases hb
  split at hb
  · rename_i ns hn
    cases hb
    obtain ⟨v, rfl, h⟩ := hv.one
    obtain ⟨a, ys, rfl, h1, h2⟩ := h.list
    have e := h2.bools hn
    subst e
    exact ⟨_, _, rfl, .inl h1, k _ _ _ (.flat S (.bl _))⟩
  · cases hb
theorem bs_all : BiS X.K (rAll X.K) .all := by
  intro fx M σ r H vs ds z Q S hv hb k
  unfold bi at hb
  split at hb <;> first | (rename_i hn; cases hn; done) | skip
  all_goals try cases hb
  split at hb
  · rename_i ns hn
    cases hb
    obtain ⟨v, rfl, h⟩ := hv.one
    obtain ⟨a, ys, rfl, h1, h2⟩ := h.list
    have e := h2.bools hn
    subst e
    exact ⟨_, _, rfl, .inl h1, k _ _ _ (.flat S (.bl _))⟩
  · cases hb
theorem bs_max2 {K : PySem.W.Frag} : BiS K (fun xs H Q => ∃ i j, xs = [.int i, .int j] ∧ Q (.int (if j > i then j else i)) H) .max2 := by
  intro fx M σ r H vs ds z Q S hv hb k
  unfold bi at hb
  split at hb <;> first | (rename_i hn; cases hn; done) | skip
  all_goals try cases hb
  obtain ⟨v, w, rfl, h1, h2⟩ := hv.two
  exact ⟨_, _, by rw [h1.int, h2.int], k _ _ _ (.flat S (.int _))⟩
theorem bs_min2 {K : PySem.W.Frag} : BiS K (fun xs H Q => ∃ i j, xs = [.int i, .int j] ∧ Q (.int (if j < i then j else i)) H) .min2 := by
  intro fx M σ r H vs ds z Q S hv hb k
  unfold bi at hb
  split at hb <;> first | (rename_i hn; cases hn; done) | skip
  all_goals try cases hb
  obtain ⟨v, w, rfl, h1, h2⟩ := hv.two
  exact ⟨_, _, by rw [h1.int, h2.int], k _ _ _ (.flat S (.int _))⟩
theorem bs_abs {K : PySem.W.Frag} : BiS K (fun xs H Q => ∃ i, xs = [.int i] ∧ Q (.int (if i < 0 then -i else i)) H) .abs := by
  intro fx M σ r H vs ds z Q S hv hb k
  unfold bi at hb
  split at hb <;> first | (rename_i hn; cases hn; done) | skip
  all_goals try cases hb
  obtain ⟨v, rfl, h1⟩ := hv.one
  exact ⟨_, by rw [h1.int], k _ _ _ (.flat S (.int _))⟩
theorem bs_int {K : PySem.W.Frag} : BiS K (fun xs H Q => (∃ i, xs = [.int i] ∧ Q (.int i) H) ∨ ∃ k, xs = [.bl k] ∧ Q (.int (if k then 1 else 0)) H) .int := by
  intro fx M σ r H vs ds z Q S hv hb k
  unfold bi at hb
  split at hb <;> first | (rename_i hn; cases hn; done) | skip
  all_goals try cases hb
  · obtain ⟨v, rfl, h1⟩ := hv.one
    exact .inl ⟨_, by rw [h1.int], k _ _ _ (.flat S (.int _))⟩
  · obtain ⟨v, rfl, h1⟩ := hv.one
    exact .inr ⟨_, by rw [h1.bool], k _ _ _ (.flat S (.int _))⟩
end
end Pv

end
section
/-! Sorting, ranges as lists, isinstance, pop, bit_length. -/
namespace Pv
open PySem PySem.Spec L2

section
variable {X : Cx} {e a b : Expr} {ca cb c : CE} {pos : Pos}
theorem paired_each {F : V → D → Prop} : ∀ {xs : List V} {us : List Value} {ds : List D}, Vals xs us → Paired F xs ds → PySem.W.EachIs (fun u d => ∃ v, RelV v u ∧ F v d) us ds
  | _, _, _, .nil, .nil => .nil
  | _, _, _, .cons r t, .cons h k => .cons ⟨_, r, h⟩ (paired_each t k)
theorem each_paired {F : V → D → Prop} : ∀ {us : List Value} {ds : List D}, PySem.W.EachIs (fun u d => ∃ v, RelV v u ∧ F v d) us ds → ∃ xs, Vals xs us ∧ Paired F xs ds
  | _, _, .nil => ⟨[], .nil, .nil⟩
  | _, _, .cons ⟨v, r, h⟩ t => by
    obtain ⟨xs, h1, h2⟩ := each_paired t
    exact ⟨v :: xs, .cons r h1, .cons h h2⟩
theorem each_reads {pins : List (Addr × Obj)} {σ : L2.St} {H : Hp} {s : Shared} (I : Inv X pins σ H s) : ∀ {xs : List V} {us : List Value} {ds : List D}, DpAll X.K H xs ds → Vals xs us → PySem.W.EachIs (fun u d => ∃ as, PySem.Reads s.heap u (id d) as) us ds
  | _, _, _, .nil, .nil => .nil
  | _, _, _, .cons h k, .cons r t => .cons (h.reads I _ _ _ r) (each_reads I k t)
def rSortA (K : PySem.W.Frag) : List V → Hp → VK → Prop := fun vs H Q => ∃ (a : Addr) (xs : List V) (ds : List D) (F : V → D → Prop), vs = [V.ref a] ∧ SqL K H a xs ∧ DpAll K H xs ds ∧ Paired F xs ds ∧ sortOk ds = true ∧
  ∀ (ys : List V) (p : Addr), Paired F ys (sortD ds) → H p = none → Q (.ref p) (upd H p (.lst ys))
theorem allAlike_of {ds : List D} (h : allAlike ds = true) : PySem.W.AllAlike (ds.map id) := by
  rw [List.map_id]
  intro d hd d' hd'
  unfold allAlike at h
  exact List.all_eq_true.mp (List.all_eq_true.mp h d hd) d' hd'
theorem depthAll_mem : ∀ {ds : List D} {d : D}, d ∈ ds → d.depth ≤ PyData.depthAll ds
  | e :: ds, d, h => by
    rw [PyData.depthAll]
    rcases List.mem_cons.mp h with rfl | h
    · omega
    · have := depthAll_mem h
      omega
theorem Paired.len {F : V → D → Prop} : ∀ {xs : List V} {ds : List D}, Paired F xs ds → xs.length = ds.length
  | _, _, .nil => rfl
  | _, _, .cons _ t => congrArg (· + 1) (Paired.len t)
theorem cr_sortA (hu : X.A.units + 64 < cLine) : CallR X (.builtin "sorted") (rSortA X.K) := by
  intro pins s σ H vs us Q I r h
  obtain ⟨a, xs, ds, F, rfl, hs, hd, hp, ok, q⟩ := h
  obtain ⟨its, rv, hl, hz⟩ := I.list hs
  rw [Vals.ref1 r]
  unfold sortOk at ok
  simp only [Bool.and_eq_true] at ok
  obtain ⟨⟨⟨⟨o1, o2⟩, _⟩, o3⟩, o4⟩ := ok
  have ha := allAlike_of o1
  have hk : PySem.W.Sortable (ds.map id) := by
    rw [List.map_id]
    simp only [Bool.or_eq_true, List.all_eq_true] at o4
    rcases o4 with o4 | o4
    · refine .inl fun d hd => ?_
      have := o4 d hd
      split at this
      · exact ⟨_, _, rfl⟩
      · cases this
    · refine .inr fun d hd => ?_
      have := o4 d hd
      split at this
      · exact ⟨(by intro z; cases z), (by intro _ z; cases z)⟩
      · exact ⟨(by intro z; cases z), (by intro _ z; cases z)⟩
      · cases this
  have hdep : PyData.depthAll ds ≤ 60 := of_decide_eq_true o2
  have hlen : ds.length ≤ sizeLine := by rw [← szl]; exact of_decide_eq_true o3
  refine PySem.W.sorted_data (enc := id) hl.isList (paired_each rv hp) (each_reads I hd rv) ha hk hlen (fun b hb => ?_) fun out ho eo => ?_
  · have := depthAll_mem hb
    show _ + b.depth < _
    omega
  · obtain ⟨ys, h1, h2⟩ := each_paired eo
    obtain ⟨ep, he'⟩ := PyProof.Rows.sortedAll_at s.heap its out.toArray
    refine ⟨.ref _, upd H (s.heap.objs.size + 1) (.lst ys), I.laid (t' := s.toks) (fun _ _ => PyProof.Rows.sortedAll_old) (Nat.le_succ _) ⟨?_, out, ep, h1, he'⟩, rfl, q ys _ h2 (I.hok.fresh (Nat.le_succ _))⟩
    rw [h1.length, ho]
    exact hlen
theorem DrA.paired {K : PySem.W.Frag} {H : Hp} : ∀ {xs : List V} {ds : List D}, DrA K H xs ds → Paired (fun v d => Dr K H v d) xs ds
  | _, _, .nil => .nil
  | _, _, .cons h t => .cons h (DrA.paired t)
theorem DrA.of_paired {K : PySem.W.Frag} {H : Hp} : ∀ {xs : List V} {ds : List D}, Paired (fun v d => Dr K H v d) xs ds → DrA K H xs ds
  | _, _, .nil => .nil
  | _, _, .cons h t => .cons h (DrA.of_paired t)
theorem bs_sorted : BiS X.K (rSortA X.K) .sorted := by
  intro fx M σ r H vs ds z Q S hv hb k
  unfold bi at hb
  split at hb <;> first | (rename_i hn; cases hn; done) | skip
  all_goals try cases hb
  split at hb
  · rename_i ok
    cases hb
    obtain ⟨v, rfl, h⟩ := hv.one
    obtain ⟨a, ys, rfl, h1, h2⟩ := h.list
    refine ⟨_, _, _, _, rfl, .inl h1, (h2.mono (msk_lt _ _)).dp ?_, h2.paired, ok, fun zs p hz hp => k _ _ _ (.newL S hp (DrA.of_paired hz))⟩
    unfold sortOk at ok
    simp only [Bool.and_eq_true] at ok
    exact ok.1.1.2
  · cases hb

/-! ### list(range(..)), tuple(range(..)) -/
theorem rangeD_r {K : PySem.W.Frag} {H : Hp} (a b : Int) : DrA K H (rgV a b) (rangeD a b) := by
  have : ∀ l : List Nat, DrA K H (l.map fun i => V.int (a + (i : Nat))) (l.map fun (i : Nat) => PyData.int (a + i)) := by
    intro l
    induction l with
    | nil => exact .nil
    | cons i l ih => exact .cons (.int _) ih
  exact this _
theorem small0 : smallI 0 = true := smallI_of ⟨by omega, by omega⟩
theorem rg_ok {a b : Int} (h1 : decide (b - a ≤ SZ) = true) (h2 : smallI a = true) (h3 : smallI b = true) : RgOk a b := by
  have g1 := of_decide_eq_true h1
  obtain ⟨g2, g3⟩ := smallI_at h2
  obtain ⟨g4, g5⟩ := smallI_at h3
  unfold SZ at g1
  exact ⟨by omega, by omega, by omega, by omega, by omega⟩
variable {p p2 q : Pos}
theorem ge_lrange1 (hc : X.calm = true) (hg : Gl X "list") (hm : X.mg "list" = none) (hg2 : Gl X "range") (hm2 : X.mg "range" = none) (ha : GE X a ca) (na : starEach [a] X.env = (false, eval a X.env) :: starEach [] X.env := by rfl)
    (nb : starEach [.Call (.Name "range" p2) [a] [] q] X.env = (false, eval (.Call (.Name "range" p2) [a] [] q) X.env) :: starEach [] X.env := by rfl) : GE X (.Call (.Name "list" p) [.Call (.Name "range" p2) [a] [] q] [] pos) (.bi .lrange (.cons ca .nil)) :=
  .of (fun _ z => by cases z) <| (pe_listRg hc hg hm (prg_1 hg2 hm2 ha.op na) nb).mono fun σ H Q ⟨fx, M, r, x, S, ex, k⟩ => by
    rw [evE, evOs] at ex
    obtain ⟨w, ew, ex⟩ := R.bind_ok ex
    obtain ⟨y, e1, e2⟩ := R.bind_ok ew
    rw [evOs] at e2
    cases e2
    obtain ⟨ds, e3, e4⟩ := R.bind_ok ex
    obtain ⟨d, e5, e6⟩ := R.bind_ok e3
    cases e6
    obtain ⟨z, e7, e8⟩ := R.bind_ok e4
    cases e8
    refine ⟨fx, M, r, y, S, e1, fun v M1 H1 p => ?_⟩
    have h := p.val.sh p.rep e5
    cases d <;> first | cases e7 | skip
    rename_i n
    simp only [bi] at e7
    split at e7
    · rename_i g
      cases e7
      rw [Bool.and_eq_true] at g
      refine ⟨n, h.int, rg_ok (by rw [Int.sub_zero]; exact g.1) small0 g.2, fun q hq => k _ _ _ (.after p.step (.newL p.rep hq (rangeD_r _ _)))⟩
    · cases e7
theorem ge_trange1 (hc : X.calm = true) (hg : Gl X "tuple") (hm : X.mg "tuple" = none) (hg2 : Gl X "range") (hm2 : X.mg "range" = none) (ha : GE X a ca) (na : starEach [a] X.env = (false, eval a X.env) :: starEach [] X.env := by rfl)
    (nb : starEach [.Call (.Name "range" p2) [a] [] q] X.env = (false, eval (.Call (.Name "range" p2) [a] [] q) X.env) :: starEach [] X.env := by rfl) : GE X (.Call (.Name "tuple" p) [.Call (.Name "range" p2) [a] [] q] [] pos) (.bi .trange (.cons ca .nil)) :=
  .of (fun _ z => by cases z) <| (pe_tupRg hc hg hm (prg_1 hg2 hm2 ha.op na) nb).mono fun σ H Q ⟨fx, M, r, x, S, ex, k⟩ => by
    rw [evE, evOs] at ex
    obtain ⟨w, ew, ex⟩ := R.bind_ok ex
    obtain ⟨y, e1, e2⟩ := R.bind_ok ew
    rw [evOs] at e2
    cases e2
    obtain ⟨ds, e3, e4⟩ := R.bind_ok ex
    obtain ⟨d, e5, e6⟩ := R.bind_ok e3
    cases e6
    obtain ⟨z, e7, e8⟩ := R.bind_ok e4
    cases e8
    refine ⟨fx, M, r, y, S, e1, fun v M1 H1 p => ?_⟩
    have h := p.val.sh p.rep e5
    cases d <;> first | cases e7 | skip
    rename_i n
    simp only [bi] at e7
    split at e7
    · rename_i g
      cases e7
      rw [Bool.and_eq_true] at g
      refine ⟨n, h.int, rg_ok (by rw [Int.sub_zero]; exact g.1) small0 g.2, fun q hq => k _ _ _ (.after p.step (.newT p.rep hq (rangeD_r _ _)))⟩
    · cases e7

/-! ### isinstance -/
theorem tyX_of {K : PySem.W.Frag} {M : Mk} {H : Hp} {v : V} {d : D} (h : Sh K M H v d) (hd : ∀ kvs, d ≠ .dict kvs) : TyX K H v (.type (tyName d)) := by
  cases d with
  | none => rw [h.none]; exact .base .non
  | bool b => rw [h.bool]; exact .base (.bl b)
  | int i => rw [h.int]; exact .base (.int i)
  | str x => rw [h.str]; exact .base (.str x)
  | list ds =>
    obtain ⟨a, xs, rfl, h1, _⟩ := h.list
    rcases h1 with h1 | ⟨o, h1⟩
    · exact .base (.lst h1)
    · exact .base (.frz h1)
  | tuple ds =>
    obtain ⟨a, xs, rfl, h1, _, _⟩ := h.tuple
    rcases h1 with h1 | ⟨o, its, n, hk, hc, _⟩
    · rcases h1 with h1 | ⟨o, h1⟩
      · exact .base (.tup h1)
      · exact .fTuple h1
    · exact .kTuple hk hc
  | dict kvs => exact absurd rfl (hd kvs)
def isTab (K : PySem.W.Frag) (n : String) : Bool :=
  ["NoneType", "bool", "int", "str", "list", "tuple"].all fun t => PySem.W.kitOne K (.type t) (.type n) == some (t == n || (t == "bool" && n == "int"))
theorem ge_isi {t : Expr} {n : String} (hg : Gl X "isinstance") (hm : X.mg "isinstance" = none) (ha : GE X a ca) (ht : PE X t (tC (.ty n))) (hk : isTab X.K n = true) (he : starEach [a, t] X.env = (false, eval a X.env) :: starEach [t] X.env := by rfl)
    (he2 : starEach [t] X.env = (false, eval t X.env) :: starEach [] X.env := by rfl) (hpl : (backTo pos (starEach [t] X.env)).any (·.1) = false := by rfl) : GE X (.Call (.Name "isinstance" p) [a, t] [] pos) (.isi ca n) :=
  .of (fun _ z => by cases z) <| (pe_callB call_isi hg hm PyProof.Rows.boot_isinstance (pa_cons ha.op (pa_cons ht pa_nil he2) he) (by decide) (by decide) he hpl).mono fun σ H Q ⟨fx, M, r, x, S, ex, k⟩ => by
    rw [evE] at ex
    obtain ⟨y, e1, e2⟩ := R.bind_ok ex
    obtain ⟨u, e3, e4⟩ := R.bind_ok e2
    refine ⟨fx, M, r, y, S, e1, fun v M1 H1 p => ?_⟩
    have h := p.val.sh p.rep e3
    split at e4
    · cases e4
    · rename_i hn
      cases e4
      refine ⟨v, .ty n, .type (tyName u), .type n, isT u n, rfl, .ty n, tyX_of h fun kvs z => hn kvs z, ?_, k _ _ _ (.after p.step (.flat p.rep (.bl _)))⟩
      unfold isTab at hk
      rw [List.all_eq_true] at hk
      have := hk (tyName u) (by cases u <;> first | exact (hn _ rfl).elim | simp [tyName])
      exact eq_of_beq this
end
end Pv

end
section
/-! Targets, what is walked, comprehensions. -/
namespace Pv
open PySem PySem.Spec L2

/-- what is shared stays -/
def Sh1 (M : Mk) (H : Hp) (M' : Mk) (H' : Hp) : Prop := ∀ a o, M a = false → H a = some o → M' a = false ∧ H' a = some o
theorem Sh1.refl {M : Mk} {H : Hp} : Sh1 M H M H := fun _ _ h g => ⟨h, g⟩
theorem Sh1.trans {M1 M2 M3 : Mk} {H1 H2 H3 : Hp} (h : Sh1 M1 H1 M2 H2) (g : Sh1 M2 H2 M3 H3) : Sh1 M1 H1 M3 H3 := fun a o e1 e2 => let ⟨k1, k2⟩ := h a o e1 e2; g a o k1 k2
theorem Sh1.lt {M M' : Mk} {H H' : Hp} (h : Sh1 M H M' H') : Lt (msk M H) (msk M' H') := msk_mono h
theorem Sh1.rd {M M' : Mk} {H H' : Hp} (h : Sh1 M H M' H') {a : Addr} {u : HO} (r : Rd (msk M H) a u) : Rd H' a u := (msk_lt _ _).rd (h.lt.rd r)
theorem Step.sh1 {σ : L2.St} {M M' : Mk} {r r' : Env} {H H' : Hp} (s : Step σ M r H M' r' H') : Sh1 M H M' H' := s.sh

/-! ### slots by place -/
theorem wipeF_get (own : List Nat) : ∀ (r : Env) (k i : Nat), (wipeF own k r)[i]? = (r[i]?).map fun x => if own.contains (k + i) then none else x
  | [], k, i => by simp [wipeF]
  | x :: r, k, 0 => by simp [wipeF]
  | x :: r, k, i + 1 => by
    rw [wipeF, List.getElem?_cons_succ, wipeF_get own r (k + 1) i, List.getElem?_cons_succ]
    rw [show k + 1 + i = k + (i + 1) by omega]
theorem wipeE_get (own : List Nat) (r : Env) (i : Nat) : (wipeE own r)[i]? = (r[i]?).map fun x => if own.contains i then none else x := by
  have := wipeF_get own r 0 i
  rwa [Nat.zero_add] at this
theorem wipeF_len (own : List Nat) : ∀ (r : Env) (k : Nat), (wipeF own k r).length = r.length
  | [], _ => rfl
  | x :: r, k => by rw [wipeF, List.length_cons, List.length_cons, wipeF_len own r]
theorem wipeE_len (own : List Nat) (r : Env) : (wipeE own r).length = r.length := wipeF_len own r 0
theorem backF_get (own : List Nat) : ∀ (r0 r : Env) (k i : Nat), r0.length = r.length → (backF own k r0 r)[i]? = if own.contains (k + i) then r0[i]? else r[i]?
  | [], [], k, i, _ => by simp [backF]
  | x0 :: r0, x :: r, k, 0, _ => by
    rw [backF, List.getElem?_cons_zero, List.getElem?_cons_zero, List.getElem?_cons_zero, Nat.add_zero]
    split <;> rfl
  | x0 :: r0, x :: r, k, i + 1, h => by
    rw [backF, List.getElem?_cons_succ, backF_get own r0 r (k + 1) i (by simpa using h), List.getElem?_cons_succ, List.getElem?_cons_succ]
    rw [show k + 1 + i = k + (i + 1) by omega]
  | [], _ :: _, _, _, h => by simp at h
  | _ :: _, [], _, _, h => by simp at h
theorem backE_get (own : List Nat) (r0 r : Env) (i : Nat) (h : r0.length = r.length) : (backE own r0 r)[i]? = if own.contains i then r0[i]? else r[i]? := by
  have := backF_get own r0 r 0 i h
  rwa [Nat.zero_add] at this
theorem backF_len (own : List Nat) : ∀ (r0 r : Env) (k : Nat), (backF own k r0 r).length = r.length
  | [], r, _ => by cases r <;> rfl
  | _ :: _, [], _ => by unfold backF; rfl
  | x0 :: r0, x :: r, k => by rw [backF, List.length_cons, List.length_cons, backF_len own r0 r]
theorem wipe_in {σ : L2.St} {i : Nat} : ∀ {vs : List Nat}, i ∈ vs → ∀ v, (wipe σ vs)[i]? ≠ some (some v) := fun {vs} h v e => (wipe_some e).2 h
theorem contains_iff {own : List Nat} {i : Nat} : own.contains i = true ↔ i ∈ own := by simp

section
variable {K : PySem.W.Frag} {fx : Fx} {σ : L2.St} {M M' : Mk} {H H' : Hp} {r r' : Env} {v : V} {d : D}
/-- a slot of the wiped state -/
theorem wiped {own : List Nat} {i : Nat} {x : Bool × D} (e : (wipeE own r)[i]? = some (some x)) : r[i]? = some (some x) ∧ i ∉ own := by
  rw [wipeE_get] at e
  obtain ⟨y, e1, e2⟩ := Option.map_eq_some_iff.mp e
  split at e2
  · cases e2
  · rename_i h
    subst e2
    exact ⟨e1, fun z => h (contains_iff.mpr z)⟩
theorem SO.wipe {own : List Nat} {a : Addr} (h : SO (wipe σ own) (wipeE own r) a) : SO σ r a := by
  obtain ⟨i, d, h1, h2⟩ := h
  obtain ⟨g1, g2⟩ := wiped h1
  exact ⟨i, d, g1, by rw [wipe_out g2] at h2; exact h2⟩
theorem SRep.wipe (S : SRep K fx M σ H r) (own : List Nat) : SRep K fx M (wipe σ own) H (wipeE own r) := by
  refine ⟨by rw [wipe_length, wipeE_len]; exact S.len, fun i d e => ?_, fun i d e => ?_, fun i d a b e g => ?_, fun i j d e a e1 e2 g1 g2 => ?_, S.trk, S.mlo, S.frm, S.res, S.all⟩
  · obtain ⟨e1, e2⟩ := wiped e
    rw [wipe_out e2]
    exact S.sh i d e1
  · obtain ⟨e1, e2⟩ := wiped e
    rw [wipe_out e2]
    exact S.ow i d e1
  · obtain ⟨e1, e2⟩ := wiped e
    rw [wipe_out e2] at g
    exact S.fst i d a b e1 g
  · obtain ⟨e1, e1'⟩ := wiped e1
    obtain ⟨e2, e2'⟩ := wiped e2
    rw [wipe_out e1'] at g1
    rw [wipe_out e2'] at g2
    exact S.dist i j d e a e1 e2 g1 g2
theorem ownOk_at {own : List Nat} {i : Nat} {b : Bool} (h : ownOk own r = true) (hi : i ∈ own) (e : r[i]? = some (some (b, d))) : b = false := by
  unfold ownOk at h
  have := List.all_eq_true.mp h i hi
  rw [e] at this
  cases b with
  | false => rfl
  | true => cases this
theorem backed {own : List Nat} {r0 : Env} {i : Nat} {x : Bool × D} (hl : r0.length = r.length) (e : (backE own r0 r)[i]? = some (some x)) : (i ∈ own ∧ r0[i]? = some (some x)) ∨ (i ∉ own ∧ r[i]? = some (some x)) := by
  rw [backE_get own r0 r i hl] at e
  split at e
  · rename_i h
    exact .inl ⟨contains_iff.mp h, e⟩
  · rename_i h
    exact .inr ⟨fun z => h (contains_iff.mpr z), e⟩
theorem SO.back {own : List Nat} {r0 : Env} {a : Addr} (hl : r0.length = r.length) (ok : ownOk own r0 = true) (h : SO σ (backE own r0 r) a) : SO (L2.wipe σ own) r a := by
  obtain ⟨i, d, h1, h2⟩ := h
  rcases backed hl h1 with ⟨g1, g2⟩ | ⟨g1, g2⟩
  · cases ownOk_at ok g1 g2
  · exact ⟨i, d, g2, by rw [wipe_out g1]; exact h2⟩
/-- out of a comprehension: its names' slots as they were -/
theorem SRep.back {M0 : Mk} {H0 : Hp} {r0 : Env} {own : List Nat} (S0 : SRep K fx M0 σ H0 r0) (ok : ownOk own r0 = true) (h : Sh1 M0 H0 M H) (S : SRep K fx M (L2.wipe σ own) H r) : SRep K fx M σ H (backE own r0 r) := by
  have hl : r0.length = r.length := by rw [← S0.len, ← S.len, wipe_length]
  have len : (backE own r0 r).length = r.length := backF_len own r0 r 0
  refine ⟨by rw [len, ← hl]; exact S0.len, fun i d e => ?_, fun i d e => ?_, fun i d a b e g => ?_, fun i j d e a e1 e2 g1 g2 => ?_, S.trk, S.mlo, S.frm, S.res, S.all⟩
  · rcases backed hl e with ⟨g1, g2⟩ | ⟨g1, g2⟩
    · obtain ⟨v, k1, k2⟩ := S0.sh i d g2
      exact ⟨v, k1, k2.mono h.lt⟩
    · obtain ⟨v, k1, k2⟩ := S.sh i d g2
      rw [wipe_out g1] at k1
      exact ⟨v, k1, k2⟩
  · rcases backed hl e with ⟨g1, g2⟩ | ⟨g1, g2⟩
    · cases ownOk_at ok g1 g2
    · have k := S.ow i d g2
      rw [wipe_out g1] at k
      exact k
  · rcases backed hl e with ⟨g1, g2⟩ | ⟨g1, g2⟩
    · cases ownOk_at ok g1 g2
    · exact S.fst i d a b g2 (by rw [wipe_out g1]; exact g)
  · rcases backed hl e1 with ⟨k1, k2⟩ | ⟨k1, k2⟩
    · cases ownOk_at ok k1 k2
    · rcases backed hl e2 with ⟨k3, k4⟩ | ⟨k3, k4⟩
      · cases ownOk_at ok k3 k4
      · exact S.dist i j d e a k2 k4 (by rw [wipe_out k1]; exact g1) (by rw [wipe_out k3]; exact g2)

/-! ### a slot is set -/
theorem set_cases {i j : Nat} {x y : Option (Bool × D)} (e : (r.set i x)[j]? = some y) : (j = i ∧ y = x) ∨ (j ≠ i ∧ r[j]? = some y) := by
  by_cases h : i = j
  · subst h
    left
    refine ⟨rfl, ?_⟩
    rw [List.getElem?_set] at e
    simp only [if_true] at e
    split at e
    · exact (Option.some.inj e).symm
    · cases e
  · right
    rw [List.getElem?_set_ne h] at e
    exact ⟨fun z => h z.symm, e⟩
theorem SRep.setS (S : SRep K fx M σ H r) {i : Nat} (h : Dr K (msk M H) v d) : SRep K fx M (σ.set i (some v)) H (r.set i (some (false, d))) := by
  refine ⟨by rw [List.length_set, List.length_set]; exact S.len, fun j e z => ?_, fun j e z => ?_, fun j e a b z g => ?_, fun j k e f a z1 z2 g1 g2 => ?_, S.trk, S.mlo, S.frm, S.res, S.all⟩
  · have hj : j < (r.set i (some (false, d))).length := (List.getElem?_eq_some_iff.mp z).1
    rcases set_cases z with ⟨rfl, q⟩ | ⟨ne, q⟩
    · cases q
      refine ⟨v, ?_, h⟩
      rw [List.length_set, ← S.len] at hj
      exact List.getElem?_set_self hj
    · rw [List.getElem?_set_ne (Ne.symm ne)]
      exact S.sh j e q
  · rcases set_cases z with ⟨rfl, q⟩ | ⟨ne, q⟩
    · cases q
    · rw [List.getElem?_set_ne (Ne.symm ne)]
      exact S.ow j e q
  · rcases set_cases z with ⟨rfl, q⟩ | ⟨ne, q⟩
    · cases q
    · rw [List.getElem?_set_ne (Ne.symm ne)] at g
      exact S.fst j e a b q g
  · rcases set_cases z1 with ⟨rfl, q1⟩ | ⟨ne1, q1⟩
    · cases q1
    · rcases set_cases z2 with ⟨rfl, q2⟩ | ⟨ne2, q2⟩
      · cases q2
      · rw [List.getElem?_set_ne (Ne.symm ne1)] at g1
        rw [List.getElem?_set_ne (Ne.symm ne2)] at g2
        exact S.dist j k e f a q1 q2 g1 g2
theorem SO.setS {i : Nat} {a : Addr} (h : SO (σ.set i (some v)) (r.set i (some (false, d))) a) : SO σ r a := by
  obtain ⟨j, e, h1, h2⟩ := h
  rcases set_cases h1 with ⟨rfl, q⟩ | ⟨ne, q⟩
  · cases q
  · rw [List.getElem?_set_ne (Ne.symm ne)] at h2
    exact ⟨j, e, q, h2⟩
theorem SRep.setO (S : SRep K fx M σ H r) {i : Nat} {a : Addr} (hi : ∀ b, (i, b) ∉ fx.io) (h1 : M a = true) (h2 : Top K M H a d) (h3 : ¬ SO σ r a) (h4 : fx.B a = none) :
    SRep K fx M (σ.set i (some (.ref a))) H (r.set i (some (true, d))) := by
  refine ⟨by rw [List.length_set, List.length_set]; exact S.len, fun j e z => ?_, fun j e z => ?_, fun j e a' b z g q => ?_, fun j k e f a' z1 z2 g1 g2 => ?_, S.trk, S.mlo, S.frm, S.res, S.all⟩
  · rcases set_cases z with ⟨rfl, q⟩ | ⟨ne, q⟩
    · cases q
    · rw [List.getElem?_set_ne (Ne.symm ne)]
      exact S.sh j e q
  · have hj : j < (r.set i (some (true, d))).length := (List.getElem?_eq_some_iff.mp z).1
    rcases set_cases z with ⟨rfl, q⟩ | ⟨ne, q⟩
    · cases q
      rw [List.length_set, ← S.len] at hj
      exact ⟨a, List.getElem?_set_self hj, h1, h2, .inr h4⟩
    · rw [List.getElem?_set_ne (Ne.symm ne)]
      exact S.ow j e q
  · rcases set_cases z with ⟨rfl, q'⟩ | ⟨ne, q'⟩
    · exact absurd q (hi b)
    · rw [List.getElem?_set_ne (Ne.symm ne)] at g
      exact S.fst j e a' b q' g q
  · have hj : j < (r.set i (some (true, d))).length := (List.getElem?_eq_some_iff.mp z1).1
    have hk : k < (r.set i (some (true, d))).length := (List.getElem?_eq_some_iff.mp z2).1
    rw [List.length_set, ← S.len] at hj hk
    rcases set_cases z1 with ⟨rfl, q1⟩ | ⟨ne1, q1⟩
    · rcases set_cases z2 with ⟨rfl, q2⟩ | ⟨ne2, q2⟩
      · rfl
      · rw [List.getElem?_set_self hj] at g1
        cases g1
        rw [List.getElem?_set_ne (Ne.symm ne2)] at g2
        exact absurd ⟨k, f, q2, g2⟩ h3
    · rcases set_cases z2 with ⟨rfl, q2⟩ | ⟨ne2, q2⟩
      · rw [List.getElem?_set_self hk] at g2
        cases g2
        rw [List.getElem?_set_ne (Ne.symm ne1)] at g1
        exact absurd ⟨j, e, q1, g1⟩ h3
      · rw [List.getElem?_set_ne (Ne.symm ne1)] at g1
        rw [List.getElem?_set_ne (Ne.symm ne2)] at g2
        exact S.dist j k e f a' q1 q2 g1 g2
theorem SRep.setE (S : SRep K fx M σ H r) {i : Nat} {fr : Bool} (hi : ∀ b, (i, b) ∉ fx.io) (h : VRep K fx σ M H r v fr d) : SRep K fx M (σ.set i (some v)) H (setE r i fr d) := by
  unfold VRep at h
  unfold Pv.setE
  split at h
  · rename_i hb
    obtain ⟨a, rfl, h1, h2, h3, h4⟩ := h
    rw [hb]
    exact S.setO hi h1 h2 h3 h4
  · rename_i hb
    have : (fr && isMut d) = false := by simpa using hb
    rw [this]
    exact S.setS h
/-- an object kept for someone, not a slot's, is written -/
theorem SRep.updN (S : SRep K fx M σ H r) {p : Addr} {o : HO} (h1 : M p = true) (h2 : ¬ SO σ r p) (h3 : fx.B p = none) : SRep K fx M σ (upd H p o) r ∧ Sh1 M H M (upd H p o) := by
  have s : Sh1 M H M (upd H p o) := fun a u g1 g2 => by
    have ne : a ≠ p := fun z => by rw [z, h1] at g1; cases g1
    exact ⟨g1, by rw [upd_ne ne]; exact g2⟩
  refine ⟨⟨S.len, fun i d e => ?_, fun i d e => ?_, S.fst, S.dist, fun a g => ?_, S.mlo, fun a u g1 g2 => ?_, fun a g1 g2 => ?_, fun a g => ?_⟩, s⟩
  · obtain ⟨v, k1, k2⟩ := S.sh i d e
    exact ⟨v, k1, k2.mono s.lt⟩
  · obtain ⟨a, k1, k2, k3, k4⟩ := S.ow i d e
    have ne : a ≠ p := fun z => h2 ⟨i, d, e, by rw [k1, z]⟩
    exact ⟨a, k1, k2, k3.mono s.lt (upd_ne ne), k4⟩
  · by_cases z : a = p
    · rw [z, upd_same]; simp
    · rw [upd_ne z]; exact S.trk a g
  · obtain ⟨k1, k2⟩ := S.frm a u g1 g2
    exact s a u k1 k2
  · obtain ⟨k1, k2⟩ := S.res a g1 g2
    by_cases z : a = p
    · have := S.trk a k1
      rw [k2, z, h3] at this
      exact absurd rfl this
    · exact ⟨k1, by rw [upd_ne z]; exact k2⟩
  · by_cases z : a = p
    · rw [z, upd_same]; simp
    · rw [upd_ne z]; exact S.all a g
theorem Step.conv {σ2 : L2.St} {r2 r3 r4 : Env} (s : Step σ2 M r2 H M' r3 H') (h1 : ∀ a, SO σ2 r2 a → SO σ r a) (h2 : ∀ a, SO σ r4 a → SO σ2 r3 a) : Step σ M r H M' r4 H' :=
  ⟨s.sh, fun a g1 g2 => s.kp a g1 fun z => g2 (h1 a z), s.all, fun a z => h1 a (s.so a (h2 a z))⟩
end
end Pv

end
section
/-! Targets, what is walked, comprehensions: the readings. -/
namespace Pv
open PySem PySem.Spec L2

section
variable {K : PySem.W.Frag} {fx : Fx} {σ : L2.St} {M M' : Mk} {H H' : Hp} {r r' : Env} {v : V} {d : D}
/-! ### targets -/
def setAll (is : List Nat) (vs : List V) (σ : L2.St) : L2.St := (is.zip vs).foldl (fun σ p => σ.set p.1 (some p.2)) σ
def setAllD (is : List Nat) (ds : List D) (r : Env) : Env := (is.zip ds).foldl (fun r p => r.set p.1 (some (false, p.2))) r
theorem SRep.setAll : ∀ {is : List Nat} {vs : List V} {ds : List D} {σ : L2.St} {r : Env}, SRep K fx M σ H r → DrA K (msk M H) vs ds → SRep K fx M (setAll is vs σ) H (setAllD is ds r)
  | [], _, _, _, _, S, _ => S
  | _ :: _, _, _, _, _, S, .nil => S
  | i :: is, _, _, _, _, S, .cons h t => SRep.setAll (is := is) (S.setS (i := i) h) t
theorem SO.setAll : ∀ {is : List Nat} {vs : List V} {ds : List D} {σ : L2.St} {r : Env} {a : Addr}, DrA K (msk M H) vs ds → SO (setAll is vs σ) (setAllD is ds r) a → SO σ r a
  | [], _, _, _, _, _, _, h => h
  | _ :: _, _, _, _, _, _, .nil, h => h
  | i :: is, _, _, _, _, _, .cons g t, h => (SO.setAll (is := is) t h).setS
def tgIs : Tg → List Nat
  | .one i => [i]
  | .tup is => is
def TG1 (K : PySem.W.Frag) (g : Tg) : TG := fun v σ H Q => ∃ fx M r d r', SRep K fx M σ H r ∧ Dr K (msk M H) v d ∧ bindT r g d = .ok r' ∧
  ∀ vs ds, DrA K (msk M H) vs ds → r' = setAllD (tgIs g) ds r → SRep K fx M (setAll (tgIs g) vs σ) H r' → vs.length = (tgIs g).length → Q (setAll (tgIs g) vs σ) H
structure GG (X : Cx) (e : Expr) (g : Tg) : Prop where
  pg : PG X e (TG1 X.K g)
end
section
variable {X : Cx} {pos : Pos}
theorem _root_.L2.PG.mono {X : Cx} {e : Expr} {t t' : TG} (h : PG X e t) (i : ∀ v σ H Q, t' v σ H Q → t v σ H Q) : PG X e t' :=
  ⟨fun pins s σ H v u Q I r q => h.run pins s σ H v u Q I r (i v σ H Q q)⟩
theorem gg_one {i : Nat} {x : Str} (h : PG X (.Name x pos) (gName i)) : GG X (.Name x pos) (.one i) :=
  ⟨h.mono fun v σ H Q ⟨fx, M, r, d, r', S, hd, e, k⟩ => by
    cases e
    exact k [v] [d] (.one hd) rfl (S.setS hd) rfl⟩
def gNames (is : List Nat) : TGs := fun vs σ H Q => vs.length = is.length ∧ Q (setAll is vs σ) H
theorem _root_.L2.PGs.mono {X : Cx} {e : List Expr} {t t' : TGs} (h : PGs X e t) (i : ∀ v σ H Q, t' v σ H Q → t v σ H Q) : PGs X e t' :=
  ⟨fun pins s σ H v u Q I r q => h.run pins s σ H v u Q I r (i v σ H Q q)⟩
theorem gs_nil : PGs X [] (gNames []) := pgs_nil.mono fun vs σ H Q ⟨e, q⟩ => ⟨List.length_eq_zero_iff.mp e, q⟩
theorem gs_cons {e : Expr} {es : List Expr} {i : Nat} {is : List Nat} (h1 : PG X e (gName i)) (h2 : PGs X es (gNames is))
    (hs : (assignEach (e :: es) X.env).map (·.2) = assign e X.env :: (assignEach es X.env).map (·.2) := by rfl) : PGs X (e :: es) (gNames (i :: is)) :=
  (pgs_cons h1 h2 hs).mono fun vs σ H Q ⟨e, q⟩ => by
    cases vs with
    | nil => cases e
    | cons v vs => exact ⟨v, vs, rfl, by simpa using e, q⟩
theorem gg_tup {es : List Expr} {k : Nat} {is : List Nat} (hc : X.calm = true) (h : PGs X es (gNames is)) (hn : (assignEach es X.env).length = is.length := by rfl) (hst : (assignEach es X.env).findIdx? (·.1) = none := by rfl) :
    GG X (.Tuple es k pos) (.tup is) :=
  ⟨(pg_tup hc h hn hst).mono fun v σ H Q ⟨fx, M, r, d, r', S, hd, e, q⟩ => by
    cases d with
    | tuple ds =>
      simp only [bindT] at e
      split at e
      · rename_i hl
        cases e
        cases hd with
        | tup h1 h2 =>
          have l : _ = is.length := h2.length.trans hl
          exact ⟨_, _, rfl, (msk_lt _ _).sqt h1, l, l, q _ ds h2 rfl (S.setAll h2) l⟩
      · cases e
    | _ => cases e⟩

/-! ### what is walked -/
/-- an item comes: it was there, or it is a new tuple -/
def YR (K : PySem.W.Frag) (M : Mk) (H : Hp) (x : V) (H' : Hp) (d : D) : Prop :=
  (H' = H ∧ Dr K (msk M H) x d) ∨ ∃ T xs ds, x = .ref T ∧ H T = none ∧ H' = upd H T (.tup xs) ∧ d = .tuple ds ∧ DrA K (msk M H) xs ds
theorem YR.rep {K : PySem.W.Frag} {fx : Fx} {σ : L2.St} {M : Mk} {H H' : Hp} {r : Env} {x : V} {d : D} (S : SRep K fx M σ H r) (y : YR K M H x H' d) : SRep K fx M σ H' r ∧ Step σ M r H M r H' ∧ Dr K (msk M H') x d := by
  rcases y with ⟨rfl, h⟩ | ⟨T, xs, ds, rfl, hT, rfl, rfl, h⟩
  · exact ⟨S, .refl, h⟩
  · obtain ⟨S', s, hM, l⟩ := S.allocS (o := .tup xs) hT
    exact ⟨S', s, .tup (.inl (.inl (msk_some.mpr ⟨hM, upd_same⟩))) (h.mono l)⟩
structure WalkR (K : PySem.W.Frag) (J : It) (ds : List D) (M0 : Mk) (H0 : Hp) : Prop where
  go : ∀ (i : Nat) (M : Mk) (H : Hp), Sh1 M0 H0 M H → i < ds.length → J.go i H
  stop : ∀ (M : Mk) (H : Hp), Sh1 M0 H0 M H → J.stop ds.length H
  yld : ∀ (i : Nat) (M : Mk) (H : Hp) (x : V) (H' : Hp) (d : D), Sh1 M0 H0 M H → ds[i]? = some d → J.yld i H x H' → YR K M H x H' d
def TI1 (K : PySem.W.Frag) (c : CI) : TI := fun σ H R => ∃ fx M r x, SRep K fx M σ H r ∧ evI c r = .ok x ∧ ∀ J M' H', SRep K fx M' σ H' x.2 → Step σ M r H M' x.2 H' → WalkR K J x.1 M' H' → R J H'
structure GI (X : Cx) (tg e : Expr) (c : CI) : Prop where
  pi : PI X tg e (TI1 X.K c)
theorem _root_.L2.PI.mono {X : Cx} {tg e : Expr} {t t' : TI} (h : PI X tg e t) (i : ∀ σ H R, t' σ H R → t σ H R) : PI X tg e t' := ⟨fun pins s σ H R I q => h.run pins s σ H R I (i σ H R q)⟩
theorem walkR_of {K : PySem.W.Frag} {J : It} {G : Hp → Prop} {Y : Nat → Hp → V → Hp → Prop} {ds : List D} {M0 : Mk} {H0 : Hp} (w : Walk J ds.length G Y) (hG : ∀ M H, Sh1 M0 H0 M H → G H)
    (hY : ∀ i M H x H' d, Sh1 M0 H0 M H → ds[i]? = some d → Y i H x H' → YR K M H x H' d) : WalkR K J ds M0 H0 :=
  ⟨fun i M H s hi => w.goes i H hi (hG M H s), fun M H s => w.stops H (hG M H s), fun i M H x H' d s hd y => hY i M H x H' d s hd (w.yields i H x H' (List.getElem?_eq_some_iff.mp hd).1 (hG M H s) y)⟩
theorem walkR_list {K : PySem.W.Frag} {a : Addr} {xs : List V} {ds : List D} {M0 : Mk} {H0 : Hp} (h1 : Rd (msk M0 H0) a (.lst xs)) (h2 : DrA K (msk M0 H0) xs ds) : WalkR K (Itl K a) ds M0 H0 :=
  walkR_of (Y := YAt xs) (G := fun H => SqL K H a xs) (by rw [← h2.length]; exact walk_list) (fun M H s => .inl (s.rd h1)) fun i M H x H' d s hd y => by
    obtain ⟨v, g1, g2⟩ := (h2.mono s.lt).getR hd
    obtain ⟨rfl, y⟩ := y
    rw [y] at g1
    cases g1
    exact .inl ⟨rfl, g2⟩
theorem walkR_tup {K : PySem.W.Frag} {a : Addr} {xs : List V} {ds : List D} {M0 : Mk} {H0 : Hp} (h1 : SqT K (msk M0 H0) a xs) (h2 : DrA K (msk M0 H0) xs ds) : WalkR K (Itt K a) ds M0 H0 :=
  walkR_of (Y := YAt xs) (G := fun H => SqT K H a xs) (by rw [← h2.length]; exact walk_tup) (fun M H s => (msk_lt _ _).sqt (s.lt.sqt h1)) fun i M H x H' d s hd y => by
    obtain ⟨v, g1, g2⟩ := (h2.mono s.lt).getR hd
    obtain ⟨rfl, y⟩ := y
    rw [y] at g1
    cases g1
    exact .inl ⟨rfl, g2⟩
theorem rangeD_get {a b : Int} {i : Nat} {d : D} (h : (rangeD a b)[i]? = some d) : d = .int (a + i) := by
  unfold rangeD at h
  rw [List.getElem?_map] at h
  obtain ⟨j, h1, h2⟩ := Option.map_eq_some_iff.mp h
  rw [List.getElem?_range (by have := (List.getElem?_eq_some_iff.mp h1).1; simpa using this)] at h1
  cases h1
  exact h2.symm
theorem rangeD_len (a b : Int) : (rangeD a b).length = (b - a).toNat := by unfold rangeD; simp
theorem walkR_range {K : PySem.W.Frag} {a b : Int} {M0 : Mk} {H0 : Hp} {n : Nat} (hn : n = (b - a).toNat) : WalkR K (Itr a n) (rangeD a b) M0 H0 :=
  walkR_of (Y := YFn fun i => .int (a + i)) (G := fun _ => True) (by rw [rangeD_len, ← hn]; exact walk_range) (fun _ _ _ => trivial) fun i M H x H' d s hd y => by
    obtain ⟨rfl, rfl⟩ := y
    rw [rangeD_get hd]
    exact .inl ⟨rfl, .int _⟩
theorem enumD_get : ∀ {ds : List D} {k i : Nat} {d : D}, (enumD k ds)[i]? = some d → ∃ e, ds[i]? = some e ∧ d = .tuple [.int ((k + i : Nat)), e]
  | [], _, _, _, h => by simp [enumD] at h
  | e :: ds, k, 0, _, h => by
    simp [enumD] at h
    exact ⟨e, rfl, h.symm⟩
  | e :: ds, k, i + 1, _, h => by
    rw [enumD, List.getElem?_cons_succ] at h
    obtain ⟨e', h1, h2⟩ := enumD_get h
    refine ⟨e', by simpa using h1, ?_⟩
    rw [h2, show k + 1 + i = k + (i + 1) by omega]
theorem enumD_len : ∀ (ds : List D) (k : Nat), (enumD k ds).length = ds.length
  | [], _ => rfl
  | _ :: ds, k => by rw [enumD, List.length_cons, List.length_cons, enumD_len]
theorem walkR_enum {K : PySem.W.Frag} {a : Addr} {xs : List V} {ds : List D} {M0 : Mk} {H0 : Hp} (h1 : Rd (msk M0 H0) a (.lst xs)) (h2 : DrA K (msk M0 H0) xs ds) : WalkR K (Ite K a) (enumD 0 ds) M0 H0 :=
  walkR_of (Y := YPair (fun i => some (.int (i : Nat))) (fun i => xs[i]?)) (G := fun H => SqL K H a xs) (by rw [enumD_len, ← h2.length]; exact walk_enum) (fun M H s => .inl (s.rd h1)) fun i M H x H' d s hd y => by
    obtain ⟨T, x1, y1, rfl, hT, rfl, e1, e2⟩ := y
    obtain ⟨e, k1, rfl⟩ := enumD_get hd
    obtain ⟨v, g1, g2⟩ := (h2.mono s.lt).getR k1
    have e2 : xs[i]? = some y1 := e2
    rw [e2] at g1
    cases g1
    cases e1
    refine .inr ⟨T, _, _, rfl, hT, rfl, rfl, .cons ?_ (.one g2)⟩
    rw [Nat.zero_add]
    exact .int _
theorem zipD_get {xs ys : List D} {i : Nat} {d : D} (h : (zipD xs ys)[i]? = some d) : ∃ x y, xs[i]? = some x ∧ ys[i]? = some y ∧ d = .tuple [x, y] := by
  unfold zipD at h
  rw [List.getElem?_map] at h
  obtain ⟨⟨x, y⟩, h1, h2⟩ := Option.map_eq_some_iff.mp h
  rw [List.getElem?_zip_eq_some] at h1
  exact ⟨x, y, h1.1, h1.2, h2.symm⟩
theorem zipD_len (xs ys : List D) : (zipD xs ys).length = min xs.length ys.length := by unfold zipD; simp
theorem walkR_zip {K : PySem.W.Frag} {a b : Addr} {xs ys : List V} {ds es : List D} {M0 : Mk} {H0 : Hp} (h1 : Rd (msk M0 H0) a (.lst xs)) (h2 : DrA K (msk M0 H0) xs ds) (h3 : Rd (msk M0 H0) b (.lst ys)) (h4 : DrA K (msk M0 H0) ys es) : WalkR K (Itz K a b) (zipD ds es) M0 H0 :=
  walkR_of (Y := YPair (fun i => xs[i]?) (fun i => ys[i]?)) (G := fun H => SqL K H a xs ∧ SqL K H b ys) (walk_zip (by rw [zipD_len, h2.length, h4.length])) (fun M H s => ⟨.inl (s.rd h1), .inl (s.rd h3)⟩) fun i M H x H' d s hd y => by
    obtain ⟨T, x1, y1, rfl, hT, rfl, e1, e2⟩ := y
    obtain ⟨p, q, k1, k2, rfl⟩ := zipD_get hd
    obtain ⟨v, g1, g2⟩ := (h2.mono s.lt).getR k1
    obtain ⟨w, g3, g4⟩ := (h4.mono s.lt).getR k2
    have e1 : xs[i]? = some x1 := e1
    have e2 : ys[i]? = some y1 := e2
    rw [e1] at g1
    cases g1
    rw [e2] at g3
    cases g3
    exact .inr ⟨T, _, _, rfl, hT, rfl, rfl, .cons g2 (.one g4)⟩
theorem walkR_zipT {K : PySem.W.Frag} {a b : Addr} {xs ys : List V} {ds es : List D} {M0 : Mk} {H0 : Hp} (h1 : SqT K (msk M0 H0) a xs) (h2 : DrA K (msk M0 H0) xs ds) (h3 : SqT K (msk M0 H0) b ys) (h4 : DrA K (msk M0 H0) ys es) : WalkR K (RZ.ItzT K a b) (zipD ds es) M0 H0 := by
  have g1 : ∀ M H, Sh1 M0 H0 M H → SqT K H a xs := fun M H s => (msk_lt _ _).sqt (s.lt.sqt h1)
  have g3 : ∀ M H, Sh1 M0 H0 M H → SqT K H b ys := fun M H s => (msk_lt _ _).sqt (s.lt.sqt h3)
  have l1 := h2.length
  have l2 := h4.length
  refine ⟨fun i M H s hi => ?_, fun M H s => ⟨xs, ys, g1 M H s, g3 M H s, ?_⟩, fun i M H x H' d s hd y => ?_⟩
  · rw [zipD_len] at hi
    exact ⟨xs, ys, xs[i]'(by omega), ys[i]'(by omega), g1 M H s, g3 M H s, by simp, by simp⟩
  · rw [zipD_len]
    omega
  · obtain ⟨T, x1, y1, rfl, hT, rfl, e1, e2⟩ := y
    obtain ⟨p, q, k1, k2, rfl⟩ := zipD_get hd
    obtain ⟨v, k3, k4⟩ := (h2.mono s.lt).getR k1
    obtain ⟨w, k5, k6⟩ := (h4.mono s.lt).getR k2
    have e1 := e1 xs (g1 M H s)
    have e2 := e2 ys (g3 M H s)
    rw [e1] at k3
    cases k3
    rw [e2] at k5
    cases k5
    exact .inr ⟨T, _, _, rfl, hT, rfl, rfl, .cons k4 (.one k6)⟩

variable {tg e a b : Expr} {c ca cb : CE} {p tpos : Pos}
theorem gi_seq (h : GE X e c) : GI X tg e (.seq c) := ⟨⟨fun pins s σ H RR I ⟨fx, M, r, x, S, ex, k⟩ => by
  rw [evI] at ex
  obtain ⟨y, e1, e2⟩ := R.bind_ok ex
  obtain ⟨ds, e3, e4⟩ := R.bind_ok e2
  cases e4
  cases hd : y.2.1 with
  | list es =>
    rw [hd] at e3
    cases e3
    refine (pi_list h.ev).run pins s σ H RR I ⟨fx, M, r, y, S, e1, fun v M1 H1 p1 => ?_⟩
    obtain ⟨M2, S2, s2, h2, _⟩ := p1.shared S
    rw [hd] at h2
    cases h2 with
    | lst g1 g2 => exact ⟨_, rfl, ⟨_, .inl ((msk_lt _ _).rd g1)⟩, k _ _ _ S2 s2 (walkR_list g1 g2)⟩
  | tuple es =>
    rw [hd] at e3
    cases e3
    refine (pi_tup h.ev).run pins s σ H RR I ⟨fx, M, r, y, S, e1, fun v M1 H1 p1 => ?_⟩
    obtain ⟨M2, S2, s2, h2, _⟩ := p1.shared S
    rw [hd] at h2
    cases h2 with
    | tup g1 g2 => exact ⟨_, rfl, ⟨_, (msk_lt _ _).sqt g1⟩, k _ _ _ S2 s2 (walkR_tup g1 g2)⟩
  | _ => rw [hd] at e3; cases e3⟩⟩
theorem evOs1 {c : CE} {r : Env} {x : List (Nat ⊕ D) × Env} (e : evOs (.cons c .nil) r = .ok x) : ∃ y, opnd c (evE c) r = .ok y ∧ x = ([y.1], y.2) := by
  rw [evOs] at e
  obtain ⟨y, e1, e2⟩ := R.bind_ok e
  rw [evOs] at e2
  cases e2
  exact ⟨y, e1, rfl⟩
theorem looks1 {r : Env} {y : Nat ⊕ D} {ds : List D} (e : looks r [y] = .ok ds) : ∃ d, look r y = .ok d ∧ ds = [d] := by
  obtain ⟨d, e1, e2⟩ := R.bind_ok e
  cases e2
  exact ⟨d, e1, rfl⟩
theorem looks2 {r : Env} {y z : Nat ⊕ D} {ds : List D} (e : looks r [y, z] = .ok ds) : ∃ d d', look r y = .ok d ∧ look r z = .ok d' ∧ ds = [d, d'] := by
  obtain ⟨d, e1, e2⟩ := R.bind_ok e
  obtain ⟨es, e3, e4⟩ := R.bind_ok e2
  cases e4
  obtain ⟨d', e5, e6⟩ := looks1 e3
  cases e6
  exact ⟨d, d', e1, e5, rfl⟩
theorem gi_rng1 (hg : Gl X "range") (hm : X.mg "range" = none) (ha : GE X a ca) (hs : starEach [a] X.env = [(false, eval a X.env)] := by rfl) : GI X tg (.Call (.Name "range" p) [a] [] pos) (.rng (.cons ca .nil)) :=
  ⟨(pi_range1 hg hm (gv_cons ha gv_nil hs).os hs).mono fun σ H RR ⟨fx, M, r, x, S, ex, k⟩ => by
    rw [evI] at ex
    obtain ⟨y, e1, e2⟩ := R.bind_ok ex
    obtain ⟨ds, e3, e4⟩ := R.bind_ok e2
    refine ⟨fx, M, r, y, S, e1, fun vs M1 H1 S1 s1 o1 => ?_⟩
    have h := o1.sh S1 e3
    split at e4
    · rename_i n
      split at e4
      · rename_i g
        cases e4
        obtain ⟨v, rfl, hh⟩ := h.one
        obtain ⟨g1, g2⟩ := smallI_at g
        rw [hh.int]
        exact ⟨n, rfl, by omega, by omega, k _ _ _ S1 s1 (walkR_range (by rw [Int.sub_zero]))⟩
      · cases e4
    · obtain ⟨z, q1, q2⟩ := evOs1 e1
      cases q2
      obtain ⟨d, _, q3⟩ := looks1 e3
      cases q3
    · obtain ⟨z, q1, q2⟩ := evOs1 e1
      cases q2
      obtain ⟨d, _, q3⟩ := looks1 e3
      cases q3
    · cases e4⟩
theorem gi_rng2 (hg : Gl X "range") (hm : X.mg "range" = none) (ha : GE X a ca) (hb : GE X b cb) (hs : starEach [a, b] X.env = [(false, eval a X.env), (false, eval b X.env)] := by rfl) (hs2 : starEach [b] X.env = [(false, eval b X.env)] := by rfl) :
    GI X tg (.Call (.Name "range" p) [a, b] [] pos) (.rng (.cons ca (.cons cb .nil))) :=
  ⟨(pi_range2 hg hm (gv_cons ha (gv_cons hb gv_nil hs2) (by rw [hs, hs2])).os hs hs2).mono fun σ H RR ⟨fx, M, r, x, S, ex, k⟩ => by
    rw [evI] at ex
    obtain ⟨y, e1, e2⟩ := R.bind_ok ex
    obtain ⟨ds, e3, e4⟩ := R.bind_ok e2
    refine ⟨fx, M, r, y, S, e1, fun vs M1 H1 S1 s1 o1 => ?_⟩
    have h := o1.sh S1 e3
    have hl : ds.length = 2 := by
      rw [evOs] at e1
      obtain ⟨z, q1, q2⟩ := R.bind_ok e1
      obtain ⟨z', q3, q4⟩ := R.bind_ok q2
      obtain ⟨z2, q5, q6⟩ := evOs1 q3
      cases q4
      subst q6
      obtain ⟨d, d', _, _, q⟩ := looks2 e3
      rw [q]
      rfl
    split at e4
    · simp at hl
    · rename_i n m
      split at e4
      · rename_i g
        cases e4
        obtain ⟨v, w, rfl, h, h'⟩ := h.two
        rw [Bool.and_eq_true] at g
        obtain ⟨g1, g2⟩ := smallI_at g.1
        obtain ⟨g3, g4⟩ := smallI_at g.2
        rw [h.int, h'.int]
        exact ⟨n, m, rfl, ⟨by omega, by omega, by omega, by omega⟩, k _ _ _ S1 s1 (walkR_range rfl)⟩
      · cases e4
    · simp at hl
    · cases e4⟩
theorem pa1_mono (h : GE X a ca) (hs : starEach [a] X.env = [(false, eval a X.env)]) : PA X [a] (TV1 X.K (.cons ca .nil)) := (gv_cons h gv_nil hs).ev
theorem gi_enum {elts : List Expr} {kk : Nat} (hg : Gl X "enumerate") (hm : X.mg "enumerate" = none) (ha : GE X a ca) (hs : starEach [a] X.env = [(false, eval a X.env)] := by rfl) : GI X (.Tuple elts kk tpos) (.Call (.Name "enumerate" p) [a] [] pos) (.enum ca) :=
  ⟨(pi_enum hg hm (pa1_mono ha hs) hs).mono fun σ H RR ⟨fx, M, r, x, S, ex, k⟩ => by
    rw [evI] at ex
    obtain ⟨y, e1, e2⟩ := R.bind_ok ex
    split at e2
    · rename_i ds hd
      cases e2
      refine ⟨fx, M, r, ([y.2.1], y.2.2), S, ?_, fun vs M1 H1 S1 s1 h1 => ?_⟩
      · rw [evEs, e1]
        rfl
      · cases h1 with
        | cons h1 t =>
          cases t
          have h1 : Dr X.K (msk M1 H1) _ y.2.1 := h1
          rw [hd] at h1
          cases h1 with
          | lst g1 g2 => exact ⟨_, _, rfl, .inl ((msk_lt _ _).rd g1), k _ _ _ S1 s1 (walkR_enum g1 g2)⟩
    · cases e2⟩
theorem gi_zip {elts : List Expr} {kk : Nat} (hg : Gl X "zip") (hm : X.mg "zip" = none) (ha : GE X a ca) (hb : GE X b cb) (hs : starEach [a, b] X.env = (false, eval a X.env) :: starEach [b] X.env := by rfl) (hs2 : starEach [b] X.env = (false, eval b X.env) :: starEach [] X.env := by rfl)
    (hpl : (backTo pos (starEach [b] X.env)).any (·.1) = false := by rfl) : GI X (.Tuple elts kk tpos) (.Call (.Name "zip" p) [a, b] [] pos) (.zip ca cb) :=
  ⟨(RZ.pi_zipA hg hm (gv_cons ha (gv_cons hb gv_nil hs2) hs).ev hs hpl).mono fun σ H RR ⟨fx, M, r, x, S, ex, k⟩ => by
    rw [evI] at ex
    obtain ⟨y, e1, e2⟩ := R.bind_ok ex
    obtain ⟨z, e3, e4⟩ := R.bind_ok e2
    have ev : evEs (.cons ca (.cons cb .nil)) r = .ok ([y.2.1, z.2.1], z.2.2) := by
      rw [evEs, e1]
      show (evEs (.cons cb .nil) y.2.2 >>= _) = _
      rw [evEs, e3]
      rfl
    split at e4
    · rename_i ds es hd he
      cases e4
      refine ⟨fx, M, r, _, S, ev, fun vs M1 H1 S1 s1 h1 => ?_⟩
      cases h1 with
      | cons h1 t =>
        cases t with
        | cons h2 t =>
          cases t
          rw [hd] at h1
          rw [he] at h2
          cases h1 with
          | lst g1 g2 =>
            cases h2 with
            | lst g3 g4 => exact ⟨_, _, _, _, rfl, .inl ⟨.inl ((msk_lt _ _).rd g1), .inl ((msk_lt _ _).rd g3), k _ _ _ S1 s1 (walkR_zip g1 g2 g3 g4)⟩⟩
    · rename_i ds es hd he
      cases e4
      refine ⟨fx, M, r, _, S, ev, fun vs M1 H1 S1 s1 h1 => ?_⟩
      cases h1 with
      | cons h1 t =>
        cases t with
        | cons h2 t =>
          cases t
          rw [hd] at h1
          rw [he] at h2
          cases h1 with
          | tup g1 g2 =>
            cases h2 with
            | tup g3 g4 => exact ⟨_, _, _, _, rfl, .inr ⟨(msk_lt _ _).sqt g1, (msk_lt _ _).sqt g3, k _ _ _ S1 s1 (walkR_zipT g1 g2 g3 g4)⟩⟩
    · cases e4⟩
end
end Pv

end
section
/-! Comprehensions. -/
namespace Pv
open PySem PySem.Spec L2

theorem setAll_get : ∀ {is : List Nat} {vs : List V} {σ : L2.St} {i : Nat}, i ∉ is → (setAll is vs σ)[i]? = σ[i]?
  | [], _, _, _, _ => rfl
  | _ :: _, [], _, _, _ => rfl
  | j :: is, v :: vs, σ, i, h => by
    have h1 : j ≠ i := fun e => h (by rw [e]; exact List.mem_cons_self)
    have h2 : i ∉ is := fun m => h (List.mem_cons_of_mem _ m)
    show (setAll is vs (σ.set j (some v)))[i]? = _
    rw [setAll_get h2, List.getElem?_set_ne h1]
theorem setAll_len : ∀ {is : List Nat} {vs : List V} {σ : L2.St}, (setAll is vs σ).length = σ.length
  | [], _, _ => rfl
  | _ :: _, [], _ => rfl
  | j :: is, v :: vs, σ => by
    show (setAll is vs (σ.set j (some v))).length = _
    rw [setAll_len, List.length_set]
theorem wipe_none {σ : L2.St} {i : Nat} {vs : List Nat} (h : i ∈ vs) (hl : i < σ.length) : (wipe σ vs)[i]? = some none := by
  have hl' : i < (wipe σ vs).length := by rw [wipe_length]; exact hl
  rw [List.getElem?_eq_getElem hl']
  cases q : (wipe σ vs)[i] with
  | none => rfl
  | some v =>
    refine absurd (?_ : (wipe σ vs)[i]? = some (some v)) (wipe_in h v)
    rw [List.getElem?_eq_getElem hl', q]
theorem wipe_setAll {is own : List Nat} {vs : List V} {σ : L2.St} (h : ∀ i ∈ is, i ∈ own) : wipe (setAll is vs (wipe σ own)) own = wipe σ own := by
  refine List.ext_getElem? fun i => ?_
  by_cases hl : i < σ.length
  · by_cases hi : i ∈ own
    · rw [wipe_none hi (by rw [setAll_len, wipe_length]; exact hl), wipe_none hi hl]
    · rw [wipe_out hi, setAll_get fun z => hi (h i z)]
  · rw [List.getElem?_eq_none (by rw [wipe_length, setAll_len, wipe_length]; omega), List.getElem?_eq_none (by rw [wipe_length]; omega)]
theorem set_wipe {own : List Nat} {i : Nat} {x : Option (Bool × D)} (hi : i ∈ own) (r : Env) : wipeE own (r.set i x) = wipeE own r := by
  refine List.ext_getElem? fun j => ?_
  rw [wipeE_get, wipeE_get]
  by_cases e : i = j
  · subst e
    rw [List.getElem?_set]
    simp only [if_true, contains_iff.mpr hi]
    split <;> simp_all
  · rw [List.getElem?_set_ne e]

/-- the tests of a clause -/
structure GTs (X : Cx) (ifs : List Expr) (c : CTs) : Prop where
  pt : PTs X ifs (fun σ H Q => ∃ fx M r x, SRep X.K fx M σ H r ∧ evTs c r = .ok x ∧ ∀ M' H', SRep X.K fx M' σ H' x.2 → Step σ M r H M' x.2 H' → Q x.1 H')
theorem _root_.L2.PTs.mono {X : Cx} {e : List Expr} {t t' : TT} (h : PTs X e t) (i : ∀ σ H Q, t' σ H Q → t σ H Q) : PTs X e t' := ⟨fun pins s σ H Q I q => h.run pins s σ H Q I (i σ H Q q)⟩
theorem gts_nil {X : Cx} : GTs X [] .nil := ⟨PTs.mono pts_nil fun σ H Q ⟨fx, M, r, x, S, ex, k⟩ => by
  rw [evTs] at ex
  cases ex
  exact k _ _ S .refl⟩
theorem gts_one {X : Cx} {e : Expr} {c : CT} (h : GT X e c) : GTs X [e] (.cons c .nil) := ⟨PTs.mono (pts_one h.pt) fun σ H Q ⟨fx, M, r, x, S, ex, k⟩ => by
  rw [evTs] at ex
  obtain ⟨y, e1, e2⟩ := R.bind_ok ex
  refine ⟨fx, M, r, y, S, e1, fun M1 H1 S1 s1 => ?_⟩
  obtain ⟨b, r1⟩ := y
  cases b with
  | true =>
    have e2 : evTs .nil r1 = .ok x := e2
    rw [evTs] at e2
    cases e2
    exact k _ _ S1 s1
  | false =>
    cases e2
    exact k _ _ S1 s1⟩

/-- a comprehension's turn: D its list -/
structure LcInv (K : PySem.W.Frag) (fx : Fx) (σ : L2.St) (own : List Nat) (M1 : Mk) (r1 : Env) (H1 : Hp) (Dl : Addr) (acc : List D) (M : Mk) (r : Env) (H : Hp) : Prop where
  rep : SRep K fx M (wipe σ own) H r
  step : Step (wipe σ own) M1 (wipeE own r1) H1 M r H
  msk : M Dl = true
  lst : ∃ xs, H Dl = some (.lst xs) ∧ DrA K (Pv.msk M H) xs acc
  nso : ¬ SO (wipe σ own) r Dl
theorem foldR_cons {α : Type} {f : D → α → R α} {d : D} {ds : List D} {x y : α} (e : foldR f (d :: ds) x = .ok y) : ∃ z, f d x = .ok z ∧ foldR f ds z = .ok y := R.bind_ok e
theorem drop_cons {ds : List D} {i : Nat} {d : D} (h : ds[i]? = some d) : ds.drop i = d :: ds.drop (i + 1) := by
  obtain ⟨h1, h2⟩ := List.getElem?_eq_some_iff.mp h
  rw [List.drop_eq_getElem_cons h1, h2]

section
variable {X : Cx} {elt tg iter : Expr} {ifs : List Expr} {scope : Scope} {own : List (Str × Nat)} {pos : Pos} {ci : CI} {g : Tg} {ct : CTs} {c : CE}
theorem lc_mono {te : TE} (hte : ∀ σ H Q, TE1 X.K c σ H Q → te σ H Q) (hin : ∀ i ∈ tgIs g, i ∈ own.map (·.2)) :
    ∀ σ H Q, TE1 X.K (.lc c ci g ct (own.map (·.2))) σ H Q →
      tLc (TI1 X.K ci) (TG1 X.K g) (fun σ H Q => ∃ fx M r x, SRep X.K fx M σ H r ∧ evTs ct r = .ok x ∧ ∀ M' H', SRep X.K fx M' σ H' x.2 → Step σ M r H M' x.2 H' → Q x.1 H') (TE1 X.K c) (own.map (·.2)) σ H Q := by
  intro σ H Q ⟨fx, M, r, x, S, ex, k⟩
  rw [evE] at ex
  obtain ⟨y, e1, e2⟩ := R.bind_ok ex
  split at e2
  rotate_left
  · cases e2
  rename_i ok
  obtain ⟨z, e3, e4⟩ := R.bind_ok e2
  cases e4
  generalize hvs : own.map (·.2) = vs at *
  refine ⟨fx, M, r, y, S, e1, fun J M1 H1 S1 s1 wr => fun Dl hD => ?_⟩
  obtain ⟨ds, r1⟩ := y
  have hM1 : M1 Dl = false := by
    cases q : M1 Dl with
    | false => rfl
    | true => exact absurd hD (S1.trk Dl q)
  have hB : fx.B Dl = none := by
    cases q : fx.B Dl with
    | none => rfl
    | some u => exact absurd hD (S1.all Dl (by rw [q]; simp))
  have hH : H Dl = none := Classical.byContradiction fun z => s1.all Dl z hD
  have Sw := S1.wipe vs
  -- the start
  have start : LcInv X.K fx σ vs M1 r1 H1 Dl [] (M1.add Dl) (wipeE vs r1) (upd H1 Dl (.lst [])) := by
    obtain ⟨Sa, sa, nso, _⟩ := Sw.alloc (o := .lst []) hD
    exact ⟨Sa, sa, Mk.add_same, ⟨[], upd_same, .nil⟩, nso⟩
  refine ⟨fun i m H' => m = ds.length - i ∧ i ≤ ds.length ∧ ∃ M2 r2 acc, LcInv X.K fx σ vs M1 r1 H1 Dl acc M2 r2 H' ∧ foldR (lcStep vs (fun d r => bindT r g d) (evTs ct) (evE c)) (ds.drop i) (acc, r2) = .ok z,
    ⟨_, rfl, Nat.zero_le _, _, _, _, start, e3⟩, ?_⟩
  rintro i m H2 ⟨rfl, hi, M2, r2, acc, L, ef⟩
  have sh := L.step.sh1
  by_cases hlt : i < ds.length
  · refine .inr ⟨wr.go i M2 H2 sh hlt, fun H' => i + 1 ≤ ds.length ∧ ∃ M2 r2 acc, LcInv X.K fx σ vs M1 r1 H1 Dl acc M2 r2 H' ∧ foldR (lcStep vs (fun d r => bindT r g d) (evTs ct) (evE c)) (ds.drop (i + 1)) (acc, r2) = .ok z,
      fun H' ⟨p1, p2⟩ => ⟨ds.length - (i + 1), by omega, rfl, p1, p2⟩, fun v H3 yv => ?_⟩
    have hd : ds[i]? = some ds[i] := List.getElem?_eq_getElem hlt
    obtain ⟨S3, s3, h3⟩ := (wr.yld i M2 H2 v H3 _ sh hd yv).rep L.rep
    rw [drop_cons hd] at ef
    obtain ⟨w, ew, ef⟩ := foldR_cons ef
    unfold lcStep at ew
    obtain ⟨r3, ew1, ew2⟩ := R.bind_ok ew
    obtain ⟨t, et, ew3⟩ := R.bind_ok ew2
    refine ⟨fx, M2, r2, ds[i], r3, S3, h3, ew1, fun us es hu hr3 S4 hl => ?_⟩
    subst hr3
    have own' : ∀ a, SO (setAll (tgIs g) us (wipe σ vs)) (setAllD (tgIs g) es r2) a → SO (wipe σ vs) r2 a := fun a z => z.setAll hu
    refine ⟨wipe_setAll hin, fx, M2, _, t, S4, et, fun M5 H5 S5 s5 => ?_⟩
    -- back to the wiped slots
    have outw : ∀ {ra : Env} {a : Addr}, SO (wipe σ vs) (wipeE vs ra) a → SO (setAll (tgIs g) us (wipe σ vs)) ra a := fun {ra a} ⟨j, d, z1, z2⟩ => by
      obtain ⟨z3, z4⟩ := wiped z1
      exact ⟨j, d, z3, by rw [setAll_get fun z => z4 (hin j z)]; exact z2⟩
    have backS : ∀ {Ma : Mk} {Ha : Hp} {ra : Env}, SRep X.K fx Ma (setAll (tgIs g) us (wipe σ vs)) Ha ra → SRep X.K fx Ma (wipe σ vs) Ha (wipeE vs ra) := fun {Ma Ha ra} Sa => by
      have := Sa.wipe vs
      rwa [wipe_setAll hin] at this
    obtain ⟨xs, l1, l2⟩ := L.lst
    have step5 : Step (wipe σ vs) M2 r2 H3 M5 (wipeE vs t.2) H5 := s5.conv own' fun a z => outw z
    have s35 := (L.step.trans s3).trans step5
    have D5 := (s3.trans step5).kp Dl L.msk L.nso
    cases hb : t.1 with
    | false =>
      rw [hb] at ew3
      cases ew3
      simp only [Bool.false_eq_true, if_false]
      exact ⟨hlt, M5, _, _, ⟨backS S5, s35, D5.1, ⟨xs, D5.2.trans l1, l2.mono (s3.trans step5).lt⟩, fun z => L.nso ((s3.trans step5).so Dl z)⟩, ef⟩
    | true =>
      rw [hb] at ew3
      simp only [if_true]
      obtain ⟨q, eq1, eq2⟩ := R.bind_ok ew3
      split at eq2
      rotate_left
      · cases eq2
      rename_i hsz
      cases eq2
      refine ⟨fx, M5, t.2, q, S5, eq1, fun u M6 H6 p6 => ?_⟩
      obtain ⟨M7, S7, s7, h7, _⟩ := p6.shared S5
      have step7 : Step (wipe σ vs) M2 r2 H3 M7 (wipeE vs q.2.2) H6 := (s5.trans s7).conv own' fun a z => outw z
      have st := s3.trans step7
      have D7 := st.kp Dl L.msk L.nso
      have nso7 : ¬ SO (wipe σ vs) (wipeE vs q.2.2) Dl := fun z => L.nso (st.so Dl z)
      have l7 := l2.mono st.lt
      obtain ⟨S8, s8⟩ := (backS S7).updN (o := .lst (xs ++ [u])) D7.1 nso7 hB
      refine ⟨xs, D7.2.trans l1, ?_, hlt, M7, _, _, ⟨S8, ?_, D7.1, ⟨_, upd_same, (l7.app (.one h7)).mono s8.lt⟩, nso7⟩, ef⟩
      · rw [l2.length, ← szl]
        exact hsz
      · have full := L.step.trans st
        refine ⟨(full.sh1).trans s8, fun a z1 z2 => ?_, fun a z => ?_, full.so⟩
        · have ne : a ≠ Dl := fun w => by rw [w, hM1] at z1; cases z1
          obtain ⟨k1, k2⟩ := full.kp a z1 z2
          exact ⟨k1, by rw [upd_ne ne]; exact k2⟩
        · by_cases w : a = Dl
          · rw [w, upd_same]; simp
          · rw [upd_ne w]; exact full.all a z
  · have e : i = ds.length := by omega
    subst e
    rw [List.drop_length] at ef
    cases ef
    refine .inl ⟨wr.stop M2 H2 sh, k _ M2 H2 ?_⟩
    have hl : r1.length = r2.length := by rw [← S1.len, ← L.rep.len, wipe_length]
    have bk := SRep.back S1 ok sh L.rep
    have stp : Step σ M1 r1 H1 M2 (backE vs r1 r2) H2 := L.step.conv (fun a z => z.wipe) fun a z => z.back hl ok
    refine ⟨bk, s1.trans stp, .new L.msk L.lst (fun z => L.nso (z.back hl ok)) hB, fun _ a e => ?_⟩
    cases e
    exact hH
theorem ge_lc (hc : X.calm = true) (hN : X.N.Nodup) (hi : GI X tg iter ci) (ok : BlkOk X.N X.env.scope scope own)
    (hg : ∀ (s : Shared) (H : Hp) (C : Addr) (cl : List (Str × Addr)) (fp : List Addr), GG (X.blk s H scope (compEnvC scope cl C X.env) fp) tg g) (ht : ∀ (s : Shared) (H : Hp) (C : Addr) (cl : List (Str × Addr)) (fp : List Addr), GTs (X.blk s H scope (compEnvC scope cl C X.env) fp) ifs ct)
    (he : ∀ (s : Shared) (H : Hp) (C : Addr) (cl : List (Str × Addr)) (fp : List Addr), GE (X.blk s H scope (compEnvC scope cl C X.env) fp) elt c) (hin : (tgIs g).all (fun i => (own.map (·.2)).contains i) = true) (hs : ∀ x, foldedSetIterable iter X.env x = pure x := by intro _; rfl) :
    GE X (.ListComp elt [⟨tg, iter, ifs, 0⟩] scope pos) (.lc c ci g ct (own.map (·.2))) :=
  .of (fun _ z => by cases z) <| (pe_lc hc hN hi.pi ok (fun s H C cl fp => (hg s H C cl fp).pg) (fun s H C cl fp => (ht s H C cl fp).pt) (fun s H C cl fp => (he s H C cl fp).ev) hs).mono
    (lc_mono (te := TE1 X.K c) (fun _ _ _ h => h) fun i hi => contains_iff.mp (List.all_eq_true.mp hin i hi))
end
end Pv

end
section
/-! Statements. -/
namespace Pv
open PySem PySem.Spec L2

def SEnd (K : PySem.W.Frag) (fx : Fx) (M : Mk) (H : Hp) (x : Fl × Env) (E : Ends) : Prop := match x.1 with
  | .next => ∀ σ' M' H', SRep K fx M' σ' H' x.2 → Sh1 M H M' H' → E.nx σ' H'
  | .brk => ∀ σ' M' H', SRep K fx M' σ' H' x.2 → Sh1 M H M' H' → E.bk σ' H'
  | .cont => ∀ σ' M' H', SRep K fx M' σ' H' x.2 → Sh1 M H M' H' → E.ct σ' H'
  | .ret fr d => ∀ v σ' M' H', SRep K fx M' σ' H' x.2 → VRep K fx σ' M' H' x.2 v fr d → Sh1 M H M' H' → E.rt v H'
def TSc (K : PySem.W.Frag) (ios : List Nat) (f : Env → R (Fl × Env)) : TS := fun E σ H => ∃ fx M r x, SRep K fx M σ H r ∧ (∀ p ∈ fx.io, p.1 ∈ ios) ∧ f r = .ok x ∧ SEnd K fx M H x E
theorem SEnd.after {K : PySem.W.Frag} {fx : Fx} {M M1 : Mk} {H H1 : Hp} {x : Fl × Env} {E : Ends} (h : Sh1 M H M1 H1) (e : SEnd K fx M H x E) : SEnd K fx M1 H1 x E := by
  obtain ⟨f, r⟩ := x
  cases f with
  | next => exact fun σ' M' H' S s => e σ' M' H' S (h.trans s)
  | brk => exact fun σ' M' H' S s => e σ' M' H' S (h.trans s)
  | cont => exact fun σ' M' H' S s => e σ' M' H' S (h.trans s)
  | ret fr d => exact fun v σ' M' H' S g s => e v σ' M' H' S g (h.trans s)
structure GS (X : Cx) (ios : List Nat) (st : Stmt) (c : CS) : Prop where
  ps : PS X st (TSc X.K ios (exS c))
structure GB (X : Cx) (ios : List Nat) (st : List Stmt) (cs : List CS) : Prop where
  ps : PSs X st (TSc X.K ios (exSs cs))
section
variable {X : Cx} {ios : List Nat} {st : Stmt} {rest : List Stmt} {s : CS} {cs : List CS} {e : Expr} {c : CE} {pos : Pos}
theorem gb_nil : GB X ios [] [] := ⟨pss_nil.mono fun E σ H ⟨fx, M, r, x, S, hi, ex, k⟩ => by
  rw [exSs] at ex
  cases ex
  exact k σ M H S .refl⟩
theorem gb_cons (h : GS X ios st s) (hr : GB X ios rest cs) : GB X ios (st :: rest) (s :: cs) := ⟨(pss_cons h.ps hr.ps).mono fun E σ H ⟨fx, M, r, x, S, hi, ex, k⟩ => by
  rw [exSs] at ex
  obtain ⟨y, e1, e2⟩ := R.bind_ok ex
  obtain ⟨f, r1⟩ := y
  refine ⟨fx, M, r, (f, r1), S, hi, e1, ?_⟩
  cases f with
  | next => exact fun σ' M' H' S' s' => ⟨fx, M', r1, x, S', hi, e2, k.after s'⟩
  | brk => cases e2; exact k
  | cont => cases e2; exact k
  | ret fr d => cases e2; exact k⟩
theorem gs_pass : GS X ios (.Pass pos) .pass := ⟨ps_pass.mono fun E σ H ⟨fx, M, r, x, S, hi, ex, k⟩ => by
  rw [exS] at ex
  cases ex
  exact k σ M H S .refl⟩
theorem gs_doc {x j p p'} : GS X ios (.Expr (.Constant (.str x) j p) p') .pass := ⟨ps_doc.mono fun E σ H ⟨fx, M, r, x, S, hi, ex, k⟩ => by
  rw [exS] at ex
  cases ex
  exact k σ M H S .refl⟩
theorem gs_brk : GS X ios (.Break pos) .brk := ⟨ps_break.mono fun E σ H ⟨fx, M, r, x, S, hi, ex, k⟩ => by
  rw [exS] at ex
  cases ex
  exact k σ M H S .refl⟩
theorem gs_cont : GS X ios (.Continue pos) .cont := ⟨ps_continue.mono fun E σ H ⟨fx, M, r, x, S, hi, ex, k⟩ => by
  rw [exS] at ex
  cases ex
  exact k σ M H S .refl⟩
theorem gs_raise {c : Str} : GS X ios st (.raise c) := ⟨ps_never.mono fun E σ H ⟨fx, M, r, x, S, hi, ex, k⟩ => by
  rw [exS] at ex
  cases ex⟩
theorem gs_expr (h : GE X e c) (hs : swapsWith e none pos.line X.env = pure false := by rfl) : GS X ios (.Expr e pos) (.expr c) := ⟨(ps_expr h.ev hs).mono fun E σ H ⟨fx, M, r, x, S, hi, ex, k⟩ => by
  rw [exS] at ex
  obtain ⟨y, e1, e2⟩ := R.bind_ok ex
  cases e2
  exact ⟨fx, M, r, y, S, e1, fun v M1 H1 p => k σ M1 H1 p.rep p.step.sh1⟩⟩
theorem noio {fx : Fx} {i : Nat} (hi : ∀ p ∈ fx.io, p.1 ∈ ios) (h : ios.contains i = false) : ∀ b, (i, b) ∉ fx.io := fun b z => by
  have := hi _ z
  rw [contains_iff.mpr this] at h
  cases h
theorem asg_mono {te : TE} {i : Nat} (hio : ios.contains i = false) (hte : ∀ σ H Q, TE1 X.K c σ H Q → te σ H Q) : ∀ E σ H, TSc X.K ios (exS (.set i c)) E σ H → tAsg te (gName i) E σ H := fun E σ H ⟨fx, M, r, x, S, hi, ex, k⟩ => by
  rw [exS] at ex
  obtain ⟨y, e1, e2⟩ := R.bind_ok ex
  cases e2
  exact hte _ _ _ ⟨fx, M, r, y, S, e1, fun v M1 H1 p => k _ M1 H1 (p.rep.setE (noio hi hio) p.val) p.step.sh1⟩
theorem gs_set {i : Nat} {x : Str} {pos' : Pos} (hN : X.N.Nodup) (hi : X.N[i]? = some x) (hx : Loc X.env.scope x) (he : GE X e c) (hf : X.fn x = true ∨ X.env.scope.names.lookup x = some .local) (hio : ios.contains i = false := by rfl)
    (hs : swapsWith e (some (.Name x pos')) pos.line X.env = pure false := by rfl) : GS X ios (.Assign [.Name x pos'] e pos) (.set i c) :=
  ⟨(ps_set hN hi hx he.ev hs hf).mono (asg_mono hio fun _ _ _ h => h)⟩
theorem gs_setLc {elt tg iter : Expr} {ifs : List Expr} {scope : Scope} {own : List (Str × Nat)} {lpos : Pos} {ci : CI} {g : Tg} {ct : CTs} {i : Nat} {y : Str} {py : Pos} (hc : X.calm = true) (hN : X.N.Nodup) (hy : X.N[i]? = some y) (hyl : X.env.scope.names.lookup y = some .local)
    (hsw : swapsWith (.ListComp elt [⟨tg, iter, ifs, 0⟩] scope lpos) (some (.Name y py)) pos.line X.env = pure true) (hi : GI X tg iter ci) (ok : BlkOk X.N X.env.scope scope own)
    (hg : ∀ (s : Shared) (H : Hp) (C : Addr) (cl : List (Str × Addr)) (fp : List Addr), GG (X.blk s H scope (compEnvC scope cl C X.env) fp) tg g) (ht : ∀ (s : Shared) (H : Hp) (C : Addr) (cl : List (Str × Addr)) (fp : List Addr), GTs (X.blk s H scope (compEnvC scope cl C X.env) fp) ifs ct)
    (he : ∀ (s : Shared) (H : Hp) (C : Addr) (cl : List (Str × Addr)) (fp : List Addr), GE (X.blk s H scope (compEnvC scope cl C X.env) fp) elt c) (hin : (tgIs g).all (fun i => (own.map (·.2)).contains i) = true) (hio : ios.contains i = false := by rfl) (hs : ∀ x, foldedSetIterable iter X.env x = pure x := by intro _; rfl) :
    GS X ios (.Assign [.Name y py] (.ListComp elt [⟨tg, iter, ifs, 0⟩] scope lpos) pos) (.set i (.lc c ci g ct (own.map (·.2)))) :=
  ⟨(ps_setLc hc hN hy hyl hsw hi.pi ok (fun s H C cl fp => (hg s H C cl fp).pg) (fun s H C cl fp => (ht s H C cl fp).pt) (fun s H C cl fp => (he s H C cl fp).ev) hs).mono
    (asg_mono hio (lc_mono (te := TE1 X.K c) (fun _ _ _ h => h) fun i hi => contains_iff.mp (List.all_eq_true.mp hin i hi)))⟩
theorem gs_setT {tg : Expr} {is : List Nat} (he : GE X e c) (hg : GG X tg (.tup is)) (hs : swapsWithSole [tg] e pos.line X.env = pure false := by rfl) (hw : swappedStores [tg] e X.env = pure none := by rfl)
    (h1 : (assignEach [tg] X.env).map (·.2) = [assign tg X.env] := by rfl) : GS X ios (.Assign [tg] e pos) (.setT is c) := ⟨(ps_asg he.ev hg.pg hs hw h1).mono fun E σ H ⟨fx, M, r, x, S, hi, ex, k⟩ => by
  rw [exS] at ex
  obtain ⟨y, e1, e2⟩ := R.bind_ok ex
  obtain ⟨r', e3, e4⟩ := R.bind_ok e2
  cases e4
  refine ⟨fx, M, r, y, S, e1, fun v M1 H1 p => ?_⟩
  obtain ⟨M2, S2, s2, h2, _⟩ := p.shared S
  exact ⟨fx, M2, y.2.2, y.2.1, r', S2, h2, e3, fun vs ds _ _ S3 _ => k _ M2 H1 S3 s2.sh1⟩⟩
def setEs (is : List Nat) (ds : List (Bool × D)) (r : Env) : Env := (is.zip ds).foldl (fun r p => setE r p.1 p.2.1 p.2.2) r
theorem SO.setE {σ : L2.St} {r : Env} {i : Nat} {v : V} {fr : Bool} {d : D} {a : Addr} (h : SO (σ.set i (some v)) (setE r i fr d) a) : SO σ r a ∨ ((fr && isMut d) = true ∧ v = .ref a) := by
  obtain ⟨j, e, h1, h2⟩ := h
  unfold Pv.setE at h1
  have hj : j < (r.set i (some (fr && isMut d, d))).length := (List.getElem?_eq_some_iff.mp h1).1
  rcases set_cases h1 with ⟨rfl, q⟩ | ⟨ne, q⟩
  · injection q with q
    injection q with q1 q2
    right
    refine ⟨q1.symm, ?_⟩
    rw [List.getElem?_set] at h2
    simp only [if_true] at h2
    split at h2
    · injection h2 with h2
      injection h2
    · cases h2
  · rw [List.getElem?_set_ne (Ne.symm ne)] at h2
    exact .inl ⟨j, e, q, h2⟩
theorem VReps.setE {K : PySem.W.Frag} {fx : Fx} {M : Mk} {H : Hp} {σ : L2.St} {r : Env} {i : Nat} {v0 : V} {fr0 : Bool} {d0 : D} : ∀ {vs : List V} {ds : List (Bool × D)}, VReps K fx σ M H r vs ds →
    (∀ (j : Nat) (w : V) (y : Bool × D), vs[j]? = some w → ds[j]? = some y → (y.1 && isMut y.2) = true → (fr0 && isMut d0) = true → v0 ≠ w) → VReps K fx (σ.set i (some v0)) M H (Pv.setE r i fr0 d0) vs ds
  | _, _, .nil, _ => .nil
  | _, _, .cons h t, g => by
    refine .cons ?_ (VReps.setE t fun j w y e1 e2 => g (j + 1) w y (by simpa using e1) (by simpa using e2))
    unfold VRep at h ⊢
    split at h
    · rename_i hb
      obtain ⟨a, rfl, k1, k2, k3, k4⟩ := h
      rw [if_pos hb]
      refine ⟨a, rfl, k1, k2, fun z => ?_, k4⟩
      rcases z.setE with z | z
      · exact k3 z
      · exact g 0 _ _ rfl rfl hb z.1 z.2
    · rename_i hb
      rw [if_neg hb]
      exact h
theorem SRep.setEs {K : PySem.W.Frag} {fx : Fx} {M : Mk} {H : Hp} : ∀ {is : List Nat} {vs : List V} {ds : List (Bool × D)} {σ : L2.St} {r : Env}, SRep K fx M σ H r → (∀ i ∈ is, ∀ b, (i, b) ∉ fx.io) → VReps K fx σ M H r vs ds → Apart vs ds →
    SRep K fx M (Pv.setAll is vs σ) H (Pv.setEs is ds r)
  | [], _, _, _, _, S, _, _, _ => S
  | _ :: _, _, _, _, _, S, _, .nil, _ => S
  | i :: is, _, _, _, _, S, hi, .cons h t, ap =>
    SRep.setEs (is := is) (S.setE (hi i List.mem_cons_self) h) (fun j hj => hi j (List.mem_cons_of_mem _ hj)) (t.setE fun j w y e1 e2 e3 e4 => ap.1 e4 j w y e1 e2 e3) ap.2
theorem evFs_len : ∀ {cs : CEs} {r : Env} {x : List (Bool × D) × Env}, evFs cs r = .ok x → x.1.length = cs.length
  | .nil, r, x, e => by rw [evFs] at e; cases e; rfl
  | .cons c cs, r, x, e => by
    rw [evFs] at e
    obtain ⟨y, e1, e2⟩ := R.bind_ok e
    obtain ⟨z, e3, e4⟩ := R.bind_ok e2
    cases e4
    show z.1.length + 1 = cs.length + 1
    rw [evFs_len e3]
theorem VReps.len {K : PySem.W.Frag} {fx : Fx} {σ : L2.St} {M : Mk} {H : Hp} {r : Env} : ∀ {vs : List V} {xs : List (Bool × D)}, VReps K fx σ M H r vs xs → vs.length = xs.length
  | _, _, .nil => rfl
  | _, _, .cons _ t => congrArg (· + 1) (VReps.len t)
theorem noios {fx : Fx} {is : List Nat} (hi : ∀ p ∈ fx.io, p.1 ∈ ios) (h : is.all (fun i => !ios.contains i) = true) : ∀ i ∈ is, ∀ b, (i, b) ∉ fx.io := fun i hi' => noio hi (by have := List.all_eq_true.mp h i hi'; simpa using this)
variable {es : List Expr} {ces : CEs}
/-- a, b, .. = x, y, .. by a tuple -/
theorem gs_parT {tgs : List Expr} {is : List Nat} {kt : Nat} {tp : Pos} {x1} {p1 : Pos} (hc : X.calm = true) (hv : GV X es ces) (hg : PGs X tgs (gNames is)) (hl : decide (ces.length ≤ 1000) = true := by rfl) (hll : ces.length = is.length := by rfl) (hio : is.all (fun i => !ios.contains i) = true := by rfl)
    (hn : (assignEach tgs X.env).length = is.length := by rfl) (hst : (assignEach tgs X.env).findIdx? (·.1) = none := by rfl)
    (hs : swapsWithSole [.Tuple tgs kt tp] (.Tuple es x1 p1) pos.line X.env = pure false := by rfl) (hw : swappedStores [.Tuple tgs kt tp] (.Tuple es x1 p1) X.env = pure none := by rfl)
    (h1 : (assignEach [.Tuple tgs kt tp] X.env).map (·.2) = [assign (.Tuple tgs kt tp) X.env] := by rfl) : GS X ios (.Assign [.Tuple tgs kt tp] (.Tuple es x1 p1) pos) (.par is ces) :=
  ⟨(ps_asg (pe_tup hv.fs) (pg_tup hc hg hn hst) hs hw h1).mono fun E σ H ⟨fx, M, r, x, S, hi, ex, k⟩ => by
    rw [exS] at ex
    obtain ⟨y, e1, e2⟩ := R.bind_ok ex
    split at e2
    · rename_i hlen
      cases e2
      refine ⟨fx, M, r, y, S, e1, fun vs M1 H1 S1 s1 h1 ap nw => ⟨?_, fun p hp => ?_⟩⟩
      · rw [h1.len, evFs_len e1, sizeLine_eq]
        have := of_decide_eq_true hl
        omega
      · obtain ⟨S2, s2, hM, _⟩ := S1.allocS (o := .tup vs) hp
        have l : vs.length = is.length := by rw [h1.len, evFs_len e1, hll]
        exact ⟨p, vs, rfl, .inl (.inl upd_same), l, l, k _ M1 _ (S2.setEs (noios hi hio) (h1.step s2) ap) (s1.trans s2).sh1⟩
    · cases e2⟩
/-- a, b = x, y, plain names -/
theorem gs_par2 {i j : Nat} {x y : Str} {a b : Expr} {px py pt : Pos} {kt k2 pt2} (hc : X.calm = true) (hN : X.N.Nodup) (hi : X.N[i]? = some x) (hj : X.N[j]? = some y) (hij : i ≠ j)
    (hx : X.env.scope.names.lookup x = some .local) (hy : X.env.scope.names.lookup y = some .local) (hv : GV X [a, b] ces)
    (hw : swappedStores [.Tuple [.Name x px, .Name y py] kt pt] (.Tuple [a, b] k2 pt2) X.env = pure (some [x, y])) (hll : ces.length = 2 := by rfl) (hio : [i, j].all (fun i => !ios.contains i) = true := by rfl)
    (hs : swapsWithSole [.Tuple [.Name x px, .Name y py] kt pt] (.Tuple [a, b] k2 pt2) pos.line X.env = pure false := by rfl) : GS X ios (.Assign [.Tuple [.Name x px, .Name y py] kt pt] (.Tuple [a, b] k2 pt2) pos) (.par [i, j] ces) :=
  ⟨(ps_par hc hN hi hj hij hx hy hv.fs hw hs).mono fun E σ H ⟨fx, M, r, x, S, hi, ex, k⟩ => by
    rw [exS] at ex
    obtain ⟨y, e1, e2⟩ := R.bind_ok ex
    split at e2
    · rename_i hlen
      cases e2
      refine ⟨fx, M, r, y, S, e1, fun vs M1 H1 S1 s1 h1 ap nw => ?_⟩
      have l : vs.length = 2 := by rw [h1.len, evFs_len e1, hll]
      match vs, l with
      | [u, w], _ => exact ⟨u, w, rfl, k _ M1 _ (S1.setEs (is := [i, j]) (noios hi hio) h1 ap) s1.sh1⟩
    · cases e2⟩
theorem gs_par3 {i j l : Nat} {x y z : Str} {a b c : Expr} {px py pz pt : Pos} {kt k2 pt2} (hc : X.calm = true) (hN : X.N.Nodup) (hi : X.N[i]? = some x) (hj : X.N[j]? = some y) (hl : X.N[l]? = some z) (hij : i ≠ j) (hil : i ≠ l) (hjl : j ≠ l)
    (hx : X.env.scope.names.lookup x = some .local) (hy : X.env.scope.names.lookup y = some .local) (hz : X.env.scope.names.lookup z = some .local) (hv : GV X [a, b, c] ces)
    (hw : swappedStores [.Tuple [.Name x px, .Name y py, .Name z pz] kt pt] (.Tuple [a, b, c] k2 pt2) X.env = pure (some [x, y, z])) (hll : ces.length = 3 := by rfl) (hio : [i, j, l].all (fun i => !ios.contains i) = true := by rfl)
    (hs : swapsWithSole [.Tuple [.Name x px, .Name y py, .Name z pz] kt pt] (.Tuple [a, b, c] k2 pt2) pos.line X.env = pure false := by rfl) :
    GS X ios (.Assign [.Tuple [.Name x px, .Name y py, .Name z pz] kt pt] (.Tuple [a, b, c] k2 pt2) pos) (.par [i, j, l] ces) :=
  ⟨(ps_par3 hc hN hi hj hl hij hil hjl hx hy hz hv.fs hw hs).mono fun E σ H ⟨fx, M, r, x, S, hi, ex, k⟩ => by
    rw [exS] at ex
    obtain ⟨y, e1, e2⟩ := R.bind_ok ex
    split at e2
    · rename_i hlen
      cases e2
      refine ⟨fx, M, r, y, S, e1, fun vs M1 H1 S1 s1 h1 ap nw => ?_⟩
      have l : vs.length = 3 := by rw [h1.len, evFs_len e1, hll]
      match vs, l with
      | [u, w, q], _ => exact ⟨u, w, q, rfl, k _ M1 _ (S1.setEs (is := [i, j, _]) (noios hi hio) h1 ap) s1.sh1⟩
    · cases e2⟩
end
end Pv

end
section
/-! More statements: branches, loops, stores, methods that change a list. -/
namespace Pv
open PySem PySem.Spec L2

section
variable {X : Cx} {ios : List Nat} {st : Stmt} {rest : List Stmt} {s : CS} {cs cs' : List CS} {e a b : Expr} {c ca cb : CE} {pos : Pos} {p q : List Stmt}
theorem gs_if {t : CT} (hc : GT X e t) (ha : GB X ios p cs) (hb : GB X ios q cs') : GS X ios (.If e p q pos) (.ifs t cs cs') := ⟨(ps_if hc.pt ha.ps hb.ps).mono fun E σ H ⟨fx, M, r, x, S, hi, ex, k⟩ => by
  rw [exS] at ex
  obtain ⟨y, e1, e2⟩ := R.bind_ok ex
  refine ⟨fx, M, r, y, S, e1, fun M1 H1 S1 s1 => ?_⟩
  cases hb : y.1 with
  | true =>
    rw [hb] at e2
    exact ⟨fx, M1, y.2, x, S1, hi, e2, k.after s1.sh1⟩
  | false =>
    rw [hb] at e2
    exact ⟨fx, M1, y.2, x, S1, hi, e2, k.after s1.sh1⟩⟩
theorem gs_retN : GS X ios (.Return none pos) (.ret (.k .none)) := ⟨ps_retN.mono fun E σ H ⟨fx, M, r, x, S, hi, ex, k⟩ => by
  rw [exS] at ex
  rotate_left
  · intro i z; cases z
  rw [evE] at ex
  cases ex
  exact k .non σ M H S (VRep.sh .non) .refl⟩
theorem gs_ret (h : GE X e c) (hc : ∀ i, c ≠ .var i) : GS X ios (.Return (some e) pos) (.ret c) := ⟨(ps_ret h.ev).mono fun E σ H ⟨fx, M, r, x, S, hi, ex, k⟩ => by
  rw [exS] at ex
  rotate_left
  · exact hc
  obtain ⟨y, e1, e2⟩ := R.bind_ok ex
  cases e2
  exact ⟨fx, M, r, y, S, e1, fun v M1 H1 p => k v σ M1 H1 p.rep p.val p.step.sh1⟩⟩
theorem SRep.drop {K : PySem.W.Frag} {fx : Fx} {σ : L2.St} {M : Mk} {H : Hp} {r : Env} (S : SRep K fx M σ H r) (i : Nat) : SRep K fx M (σ.set i none) H (r.set i none) := by
  refine ⟨by rw [List.length_set, List.length_set]; exact S.len, fun j e z => ?_, fun j e z => ?_, fun j e a b z g => ?_, fun j k e f a z1 z2 g1 g2 => ?_, S.trk, S.mlo, S.frm, S.res, S.all⟩
  · rcases set_cases z with ⟨rfl, q⟩ | ⟨ne, q⟩
    · cases q
    · rw [List.getElem?_set_ne (Ne.symm ne)]
      exact S.sh j e q
  · rcases set_cases z with ⟨rfl, q⟩ | ⟨ne, q⟩
    · cases q
    · rw [List.getElem?_set_ne (Ne.symm ne)]
      exact S.ow j e q
  · rcases set_cases z with ⟨rfl, q⟩ | ⟨ne, q⟩
    · cases q
    · rw [List.getElem?_set_ne (Ne.symm ne)] at g
      exact S.fst j e a b q g
  · rcases set_cases z1 with ⟨rfl, q1⟩ | ⟨ne1, q1⟩
    · cases q1
    · rcases set_cases z2 with ⟨rfl, q2⟩ | ⟨ne2, q2⟩
      · cases q2
      · rw [List.getElem?_set_ne (Ne.symm ne1)] at g1
        rw [List.getElem?_set_ne (Ne.symm ne2)] at g2
        exact S.dist j k e f a q1 q2 g1 g2
/-- a name's value leaves: what it alone held is the caller's -/
theorem gs_retV {i : Nat} (h : PE X e (tVar i)) (hio : ios.contains i = false := by rfl) : GS X ios (.Return (some e) pos) (.ret (.var i)) := ⟨(ps_ret h).mono fun E σ H ⟨fx, M, r, x, S, hi, ex, k⟩ => by
  rw [exS] at ex
  split at ex
  · rename_i fr d hr
    cases ex
    have Sd := S.drop i
    cases fr with
    | false =>
      obtain ⟨v, h1, h2⟩ := S.sh i d hr
      exact ⟨v, h1, k v _ M H Sd (VRep.sh h2) .refl⟩
    | true =>
      obtain ⟨ad, h1, h2, h3, h4⟩ := S.ow i d hr
      refine ⟨.ref ad, h1, k (.ref ad) _ M H Sd (.new h2 h3 (fun z => ?_) (h4.resolve_left (noio hi hio ad))) .refl⟩
      obtain ⟨j, e, z1, z2⟩ := z
      rcases set_cases z1 with ⟨rfl, q⟩ | ⟨ne, q⟩
      · cases q
      · rw [List.getElem?_set_ne (Ne.symm ne)] at z2
        exact ne (S.dist j i e d ad q hr z2 h1)
  · cases ex⟩

/-! ### loops -/
theorem gs_for {tg iter : Expr} {body : List Stmt} {ci : CI} {g : Tg} (hp : PassesOwn (model X.prog X.w) X.A X.env X.xe) (hc : X.calm = true) (hi : GI X tg iter ci) (hg : GG X tg g) (hb : GB X ios body cs) (hs : ∀ x, foldedSetIterable iter X.env x = pure x := by intro _; rfl) :
    GS X ios (.For tg iter body [] pos) (.for_ g ci cs) := ⟨(ps_for hp hc hi.pi hg.pg hb.ps hs).mono fun E σ H ⟨fx, M, r, x, S, hio, ex, k⟩ => by
  rw [exS] at ex
  obtain ⟨y, e1, e2⟩ := R.bind_ok ex
  refine ⟨fx, M, r, y, S, e1, fun J M1 H1 S1 s1 wr => ?_⟩
  obtain ⟨ds, r1⟩ := y
  have k1 := k.after s1.sh1
  generalize hst : (fun d r => bindT r g d >>= fun r1 => exSs cs r1) = step at e2
  refine ⟨fun i m σ' H' => m = ds.length - i ∧ i ≤ ds.length ∧ ∃ M2 r2, SRep X.K fx M2 σ' H' r2 ∧ Sh1 M1 H1 M2 H' ∧ forL step (ds.drop i) r2 = .ok x, ⟨_, rfl, Nat.zero_le _, M1, r1, S1, .refl, e2⟩, ?_⟩
  rintro i m σ2 H2 ⟨rfl, hle, M2, r2, S2, sh2, ef⟩
  by_cases hlt : i < ds.length
  · refine .inr ⟨wr.go i M2 H2 sh2 hlt, fun σ' H' => i + 1 ≤ ds.length ∧ ∃ M2 r2, SRep X.K fx M2 σ' H' r2 ∧ Sh1 M1 H1 M2 H' ∧ forL step (ds.drop (i + 1)) r2 = .ok x,
      fun σ' H' ⟨p1, p2⟩ => ⟨ds.length - (i + 1), by omega, rfl, p1, p2⟩, fun v H3 yv => ?_⟩
    have hd : ds[i]? = some ds[i] := List.getElem?_eq_getElem hlt
    obtain ⟨S3, s3, h3⟩ := (wr.yld i M2 H2 v H3 _ sh2 hd yv).rep S2
    rw [drop_cons hd] at ef
    have ef : (step ds[i] r2 >>= fun x => _) = .ok x := ef
    obtain ⟨w, ew, ef⟩ := R.bind_ok ef
    subst hst
    obtain ⟨r3, ew1, ew2⟩ := R.bind_ok ew
    refine ⟨fx, M2, r2, ds[i], r3, S3, h3, ew1, fun us es hu hr3 S4 hl => ⟨fx, M2, r3, w, S4, hio, ew2, ?_⟩⟩
    have s13 := sh2.trans s3.sh1
    obtain ⟨f, r5⟩ := w
    cases f with
    | next => exact fun σ' M' H' S' s' => ⟨hlt, M', r5, S', s13.trans s', ef⟩
    | cont => exact fun σ' M' H' S' s' => ⟨hlt, M', r5, S', s13.trans s', ef⟩
    | brk => cases ef; exact fun σ' M' H' S' s' => k1 σ' M' H' S' (s13.trans s')
    | ret fr d => cases ef; exact fun v σ' M' H' S' g' s' => k1 v σ' M' H' S' g' (s13.trans s')
  · have e : i = ds.length := by omega
    subst e
    rw [List.drop_length] at ef
    cases ef
    exact .inl ⟨wr.stop M2 H2 sh2, k1 σ2 M2 H2 S2 sh2⟩⟩
theorem whR_ok {c : Env → R (Bool × Env)} {b : Env → R (Fl × Env)} {r : Env} {x : Fl × Env} (h : whR c b r = .ok x) : ∃ n, whN c b n r = .ok x := by
  unfold whR at h
  split at h
  · exact ⟨_, h⟩
  · cases h
theorem gs_while {t : CT} {body : List Stmt} (hp : PassesOwn (model X.prog X.w) X.A X.env X.xe) (hc : GT X e t) (hb : GB X ios body cs) : GS X ios (.While e body [] pos) (.whl t cs) := ⟨(ps_while hp hc.pt hb.ps).mono fun E σ H ⟨fx, M, r, x, S, hio, ex, k⟩ => by
  rw [exS] at ex
  obtain ⟨n, hn⟩ := whR_ok ex
  refine ⟨fun m σ' H' => ∃ M2 r2, SRep X.K fx M2 σ' H' r2 ∧ Sh1 M H M2 H' ∧ whN (evT t) (exSs cs) m r2 = .ok x, ⟨n, M, r, S, .refl, hn⟩, ?_⟩
  rintro m σ2 H2 ⟨M2, r2, S2, sh2, ef⟩
  cases m with
  | zero => cases ef
  | succ m =>
    have ef : (evT t r2 >>= fun t => _) = .ok x := ef
    obtain ⟨y, e1, e2⟩ := R.bind_ok ef
    refine ⟨fx, M2, r2, y, S2, e1, fun M3 H3 S3 s3 => ?_⟩
    cases hy : y.1 with
    | false =>
      simp only [hy, Bool.false_eq_true, if_false] at e2 ⊢
      cases e2
      exact k σ2 M3 H3 S3 (sh2.trans s3.sh1)
    | true =>
      simp only [hy, if_true] at e2 ⊢
      obtain ⟨w, ew, ef⟩ := R.bind_ok e2
      refine ⟨fun σ' H' => ∃ M2 r2, SRep X.K fx M2 σ' H' r2 ∧ Sh1 M H M2 H' ∧ whN (evT t) (exSs cs) m r2 = .ok x, fun σ' H' p => ⟨m, Nat.lt_succ_self m, p⟩, fx, M3, y.2, w, S3, hio, ew, ?_⟩
      have s13 := sh2.trans s3.sh1
      obtain ⟨f, r5⟩ := w
      cases f with
      | next => exact fun σ' M' H' S' s' => ⟨M', r5, S', s13.trans s', ef⟩
      | cont => exact fun σ' M' H' S' s' => ⟨M', r5, S', s13.trans s', ef⟩
      | brk => cases ef; exact fun σ' M' H' S' s' => k σ' M' H' S' (s13.trans s')
      | ret fr d => cases ef; exact fun v σ' M' H' S' g' s' => k v σ' M' H' S' g' (s13.trans s')⟩

/-! ### a list that a slot holds alone is written -/
theorem ownD_at {r : Env} {i : Nat} {d : D} (e : ownD r i = .ok d) : r[i]? = some (some (true, d)) := by
  unfold ownD at e
  split at e
  · rename_i h
    cases e
    exact h
  · cases e
theorem isOwnL_at {r : Env} {i : Nat} {u : Unit} (e : isOwnL r i = .ok u) : ∃ ds, r[i]? = some (some (true, .list ds)) := by
  unfold isOwnL at e
  split at e
  · rename_i ds h
    exact ⟨ds, h⟩
  · cases e
theorem SRep.upd {K : PySem.W.Frag} {fx : Fx} {σ : L2.St} {M : Mk} {H : Hp} {r : Env} (S : SRep K fx M σ H r) {i : Nat} {d : D} {ds : List D} {xs : List V} {a : Addr} (h : r[i]? = some (some (true, d))) (ha : σ[i]? = some (some (.ref a))) (hx : DrA K (msk M H) xs ds) :
    SRep K fx M σ (L2.upd H a (.lst xs)) (r.set i (some (true, .list ds))) ∧ Sh1 M H M (L2.upd H a (.lst xs)) := by
  obtain ⟨a', g1, g2, g3, g4⟩ := S.ow i d h
  rw [ha] at g1
  cases g1
  have s : Sh1 M H M (L2.upd H a (.lst xs)) := fun b u k1 k2 => by
    have ne : b ≠ a := fun z => by rw [z, g2] at k1; cases k1
    exact ⟨k1, by rw [upd_ne ne]; exact k2⟩
  have hi : i < σ.length := (List.getElem?_eq_some_iff.mp ha).1
  refine ⟨⟨by rw [List.length_set]; exact S.len, fun j e z => ?_, fun j e z => ?_, fun j e a1 b z g => ?_, fun j k e f a1 z1 z2 k1 k2 => ?_, fun b k => ?_, S.mlo, fun b u k1 k2 => ?_, fun b k1 k2 => ?_, fun b k => ?_⟩, s⟩
  · rcases set_cases z with ⟨rfl, q⟩ | ⟨ne, q⟩
    · cases q
    · obtain ⟨v, k1, k2⟩ := S.sh j e q
      exact ⟨v, k1, k2.mono s.lt⟩
  · rcases set_cases z with ⟨rfl, q⟩ | ⟨ne, q⟩
    · cases q
      exact ⟨a, ha, g2, ⟨xs, upd_same, hx.mono s.lt⟩, g4⟩
    · obtain ⟨b, k1, k2, k3, k4⟩ := S.ow j e q
      have nb : b ≠ a := fun w => ne (S.dist j i e d a q h (by rw [k1, w]) ha)
      exact ⟨b, k1, k2, k3.mono s.lt (upd_ne nb), k4⟩
  · rcases set_cases z with ⟨rfl, q⟩ | ⟨ne, q⟩
    · exact S.fst j d a1 b h g
    · exact S.fst j e a1 b q g
  · have at' : ∀ {j e}, (r.set i (some (true, PyData.list ds)))[j]? = some (some (true, e)) → ∃ e', r[j]? = some (some (true, e')) := fun {j e} z => by
      rcases set_cases z with ⟨rfl, q⟩ | ⟨ne, q⟩
      · exact ⟨d, h⟩
      · exact ⟨e, q⟩
    obtain ⟨e', q1⟩ := at' z1
    obtain ⟨f', q2⟩ := at' z2
    exact S.dist j k e' f' a1 q1 q2 k1 k2
  · by_cases z : b = a
    · rw [z, upd_same]; simp
    · rw [upd_ne z]; exact S.trk b k
  · obtain ⟨w1, w2⟩ := S.frm b u k1 k2
    exact s b u w1 w2
  · obtain ⟨w1, w2⟩ := S.res b k1 k2
    have nb : b ≠ a := fun z => by
      rcases g4 with g4 | g4
      · exact k2 i (by rw [z]; exact g4)
      · have := S.trk b w1
        rw [w2, z, g4] at this
        exact absurd rfl this
    exact ⟨w1, by rw [upd_ne nb]; exact w2⟩
  · by_cases z : b = a
    · rw [z, upd_same]; simp
    · rw [upd_ne z]; exact S.all b k
theorem SRep.own {K : PySem.W.Frag} {fx : Fx} {σ : L2.St} {M : Mk} {H : Hp} {r : Env} (S : SRep K fx M σ H r) {i : Nat} {ds : List D} (h : r[i]? = some (some (true, .list ds))) : ∃ a xs, σ[i]? = some (some (.ref a)) ∧ H a = some (.lst xs) ∧ DrA K (msk M H) xs ds := by
  obtain ⟨a, g1, g2, ⟨xs, g3, g4⟩, _⟩ := S.ow i _ h
  exact ⟨a, xs, g1, g3, g4⟩
variable {name : Str} {apos cpos : Pos}
theorem gs_app {o : Expr} {i : Nat} (ho : PE X o (tVar i)) (he : GE X e c) (hbase : attributeBase o "append" X.env (eval o X.env) = eval o X.env := by rfl)
    (hfew : ((backTo cpos (starEach [e] X.env)).all (fun x => !x.1) && (backToKw cpos (keywordEach [] X.env)).all (fun x => x.1.isSome)
      && decide ([e].length + ([] : List Keyword).length + (if ([] : List Keyword).isEmpty then 0 else 1) < 30)) = true := by rfl)
    (hline : (apos.endLine == cpos.line) = true := by rfl) (hs : starEach [e] X.env = (false, eval e X.env) :: starEach [] X.env := by rfl) (hplain : (backTo cpos (starEach [] X.env)).any (·.1) = false := by rfl)
    (hsw : swapsWith (.Call (.Attribute o "append" apos) [e] [] cpos) none pos.line X.env = pure false := by rfl) : GS X ios (.Expr (.Call (.Attribute o "append" apos) [e] [] cpos) pos) (.app i c) :=
  ⟨(ps_expr (pe_bm PySem.F.plainAttrs_list PySem.F.slot_list_append PySem.F.type_list_append mt_append ho (pa_cons he.ev pa_nil hs) hbase hfew hline hs hplain) hsw).mono fun E σ H ⟨fx, M, r, x, S, hio, ex, k⟩ => by
    rw [exS] at ex
    obtain ⟨u, e0, ex⟩ := R.bind_ok ex
    obtain ⟨y, e1, e2⟩ := R.bind_ok ex
    obtain ⟨d, e3, e4⟩ := R.bind_ok e2
    obtain ⟨ds0, h0⟩ := isOwnL_at e0
    obtain ⟨ad, xs0, g1, g2, _⟩ := S.own h0
    refine ⟨.ref ad, g1, .inl ⟨rfl, xs0, .inl (.inl g2)⟩, fx, M, r, y, S, e1, fun v M1 H1 p => ?_⟩
    obtain ⟨M2, S2, s2, h2, _⟩ := p.shared S
    split at e4
    · split at e4
      · rename_i ds hz
        cases e4
        have ho := ownD_at e3
        obtain ⟨ad', xs, k1, k2, k3⟩ := S2.own ho
        rw [g1] at k1
        cases k1
        obtain ⟨S3, s3⟩ := S2.upd ho g1 (k3.app (.one h2))
        exact ⟨ad, xs, v, rfl, rfl, k2, by rw [k3.length, ← szl]; exact hz, k _ M2 _ S3 (s2.sh1.trans s3)⟩
      · cases e4
    · cases e4⟩
theorem gs_put {o i : Expr} {si : Nat} (ho : PE X o (tVar si)) (hi : GE X i ca) (he : GE X e c) {tp : Pos}
    (ha : ∀ v, assign (.Subscript o i tp) X.env v = (do
      let ov ← holding [v] (eval o X.env)
      let iv ← holding [v, ov] (eval i X.env)
      standAt tp
      holding [v, ov, iv] (setItem ov iv v)
      release [v, ov, iv] []) := by intro _; rfl)
    (hs : swapsWithSole [.Subscript o i tp] e pos.line X.env = pure false := by rfl) (hw : swappedStores [.Subscript o i tp] e X.env = pure none := by rfl)
    (h1 : (assignEach [.Subscript o i tp] X.env).map (·.2) = [assign (.Subscript o i tp) X.env] := by rfl) : GS X ios (.Assign [.Subscript o i tp] e pos) (.put si ca c) :=
  ⟨(ps_asg he.ev (pg_sub ho hi.op set_list ha) hs hw h1).mono fun E σ H ⟨fx, M, r, x, S, hio, ex, k⟩ => by
    rw [exS] at ex
    obtain ⟨y, e1, ex⟩ := R.bind_ok ex
    obtain ⟨u0, e0, ex⟩ := R.bind_ok ex
    obtain ⟨z, e2, ex⟩ := R.bind_ok ex
    obtain ⟨kd, e3, ex⟩ := R.bind_ok ex
    obtain ⟨u, e4, ex⟩ := R.bind_ok ex
    refine ⟨fx, M, r, y, S, e1, fun v M1 H1 p => ?_⟩
    obtain ⟨M2, S2, s2, h2, _⟩ := p.shared S
    obtain ⟨ds0, h0⟩ := isOwnL_at e0
    obtain ⟨ad, xs0, g1, g2, _⟩ := S2.own h0
    refine ⟨.ref ad, g1, fx, M2, y.2.2, z, S2, e2, fun w M3 H3 p3 => ?_⟩
    have hk := p3.val.sh p3.rep e3
    have h3 := h2.mono p3.step.lt
    split at ex
    · rename_i ds
      split at ex
      · rename_i j _
        split at ex
        · rename_i n hn
          cases ex
          have ho := ownD_at e4
          obtain ⟨ad', xs, k1, k2, k3⟩ := p3.rep.own ho
          rw [g1] at k1
          cases k1
          obtain ⟨S4, s4⟩ := p3.rep.upd ho g1 (k3.set n h3)
          exact ⟨ad, xs, j, n, rfl, hk.int, k2, by rw [k3.length]; exact hn, k _ M3 _ S4 ((s2.sh1.trans p3.step.sh1).trans s4)⟩
        · cases ex
      · cases ex
    · cases ex⟩

/-! ### x op= e, ints -/
def AugS (rr : R2) (o : BOp) : Prop := ∀ (i j : Int) (z : Bool × D) (H : Hp) (Q : VK), bop o (.int i) (.int j) = .ok z → ∃ n, z.2 = .int n ∧ (Q (.int n) H → rr (.int i) (.int j) H Q)
theorem gs_aug {i : Nat} {x : Str} {o : BOp} {op : Operator} {rr : R2} {pos' : Pos} (hN : X.N.Nodup) (hi : X.N[i]? = some x) (hx : Loc X.env.scope x) (he : GE X e c) (ho : OpR X (inplaceOp op) rr) (hs : AugS rr o) (hf : X.fn x = true ∨ X.env.scope.names.lookup x = some .local) :
    GS X ios (.AugAssign (.Name x pos') op e pos) (.aug i o c) :=
  ⟨(ps_aug hN hi hx he.op (fun pins s σ H x y v u Q I r1 r2 h => ho pins s σ H x y v u Q I r1 r2 h) hf).mono fun E σ H ⟨fx, M, r, x, S, hio, ex, k⟩ => by
    rw [exS] at ex
    obtain ⟨u0, e0, ex⟩ := R.bind_ok ex
    obtain ⟨y, e1, ex⟩ := R.bind_ok ex
    obtain ⟨v, e2, ex⟩ := R.bind_ok ex
    obtain ⟨u, e3, ex⟩ := R.bind_ok ex
    obtain ⟨v0, g1, _⟩ := S.slot e0
    refine ⟨v0, g1, fx, M, r, y, S, e1, fun w M1 H1 p => ?_⟩
    have hv := p.val.sh p.rep e2
    obtain ⟨v1, g2, hu⟩ := p.rep.slot e3
    rw [g1] at g2
    cases g2
    split at ex
    · rename_i n m _
      obtain ⟨z, e4, ex⟩ := R.bind_ok ex
      cases ex
      obtain ⟨q, hq, hr⟩ := hs n m z H1 _ e4
      rw [hu.int, hv.int]
      refine hr (k _ M1 _ ?_ p.step.sh1)
      rw [hq]
      exact p.rep.setS (.int q)
    · cases ex⟩
theorem au_add : AugS (rI0 fun i j => .int (i + j)) .add := fun i j z H Q e => by cases e; exact ⟨_, rfl, fun q => ⟨i, j, rfl, rfl, q⟩⟩
theorem au_sub : AugS (rI0 fun i j => .int (i - j)) .sub := fun i j z H Q e => by cases e; exact ⟨_, rfl, fun q => ⟨i, j, rfl, rfl, q⟩⟩
theorem au_or : AugS (rI0 fun i j => V.int (Builtin.bitOr i j)) .bor := fun i j z H Q e => by cases e; exact ⟨_, rfl, fun q => ⟨i, j, rfl, rfl, q⟩⟩
theorem au_and : AugS (rI0 fun i j => V.int (Builtin.bitAnd i j)) .band := fun i j z H Q e => by cases e; exact ⟨_, rfl, fun q => ⟨i, j, rfl, rfl, q⟩⟩

/-! ### pop -/
theorem getLast_ix {α : Type} : ∀ (ds : List α) (d : α), ds.getLast? = some d → ds[ds.length - 1]? = some d := fun ds d h => by
  rw [List.getLast?_eq_getElem?] at h
  exact h
theorem DrA.dropLast {K : PySem.W.Frag} {H : Hp} {xs : List V} {ds : List D} (h : DrA K H xs ds) : DrA K H xs.dropLast ds.dropLast := by
  rw [List.dropLast_eq_take, List.dropLast_eq_take, h.length]
  exact h.take _
theorem SO.upd {σ : L2.St} {r : Env} {i : Nat} {ds0 ds : List D} (h : r[i]? = some (some (true, .list ds0))) {a : Addr} (z : SO σ (r.set i (some (true, .list ds))) a) : SO σ r a := by
  obtain ⟨j, e, z1, z2⟩ := z
  rcases set_cases z1 with ⟨rfl, q⟩ | ⟨ne, q⟩
  · exact ⟨_, _, h, z2⟩
  · exact ⟨j, e, q, z2⟩
theorem step_upd {K : PySem.W.Frag} {fx : Fx} {σ : L2.St} {M : Mk} {H : Hp} {r : Env} (S : SRep K fx M σ H r) {i : Nat} {ds0 ds : List D} {xs : List V} {a : Addr} (h : r[i]? = some (some (true, .list ds0))) (ha : σ[i]? = some (some (.ref a))) (hx : DrA K (msk M H) xs ds) :
    SRep K fx M σ (L2.upd H a (.lst xs)) (r.set i (some (true, .list ds))) ∧ Step σ M r H M (r.set i (some (true, .list ds))) (L2.upd H a (.lst xs)) := by
  obtain ⟨S', s⟩ := S.upd h ha hx
  refine ⟨S', s, fun b k1 k2 => ?_, fun b k => ?_, fun b z => SO.upd h z⟩
  · have ne : b ≠ a := fun z => k2 ⟨i, _, h, by rw [ha, z]⟩
    exact ⟨k1, by rw [upd_ne ne]⟩
  · by_cases z : b = a
    · rw [z, upd_same]; simp
    · rw [upd_ne z]; exact k
theorem ge_pop0 {o : Expr} {i : Nat} (ho : PE X o (tVar i)) (hbase : attributeBase o "pop" X.env (eval o X.env) = eval o X.env := by rfl) (hline : (apos.endLine == cpos.line) = true := by rfl) : GE X (.Call (.Attribute o "pop" apos) [] [] cpos) (.pop i .nil) :=
  .of (fun _ z => by cases z) <| (pe_bm0 PySem.F.plainAttrs_list PySem.F.slot_list_pop PySem.F.type_list_pop mt_pop ho hbase hline).mono fun σ H Q ⟨fx, M, r, x, S, ex, k⟩ => by
    rw [evE] at ex
    obtain ⟨u0, e0, ex⟩ := R.bind_ok ex
    rw [evOs] at ex
    obtain ⟨y, e1, ex⟩ := R.bind_ok ex
    cases e1
    obtain ⟨ds1, e2, ex⟩ := R.bind_ok ex
    cases e2
    obtain ⟨u, e3, ex⟩ := R.bind_ok ex
    obtain ⟨ds0, h0⟩ := isOwnL_at e0
    have h1 := ownD_at e3
    rw [h0] at h1
    cases h1
    obtain ⟨ad, xs, g1, g2, g3⟩ := S.own h0
    have ex : (match ds0.getLast? with | some y => (R.ok (false, y, r.set i (some (true, PyData.list ds0.dropLast))) : R (Bool × D × Env)) | none => .bad) = .ok x := ex
    split at ex
    · rename_i d hd
      cases ex
      obtain ⟨v, k1, k2⟩ := g3.getR (getLast_ix _ _ hd)
      obtain ⟨S1, s1⟩ := step_upd S h0 g1 g3.dropLast
      refine ⟨.ref ad, g1, .inl ⟨rfl, xs, .inl (.inl g2)⟩, ad, xs, v, rfl, rfl, g2, by rw [g3.length]; exact k1, k v M _ (.after s1 (.flat S1 (k2.mono s1.lt)))⟩
    · cases ex
theorem ge_pop1 {o : Expr} {i : Nat} (ho : PE X o (tVar i)) (he : GE X e c) (hbase : attributeBase o "pop" X.env (eval o X.env) = eval o X.env := by rfl)
    (hfew : ((backTo cpos (starEach [e] X.env)).all (fun x => !x.1) && (backToKw cpos (keywordEach [] X.env)).all (fun x => x.1.isSome)
      && decide ([e].length + ([] : List Keyword).length + (if ([] : List Keyword).isEmpty then 0 else 1) < 30)) = true := by rfl)
    (hline : (apos.endLine == cpos.line) = true := by rfl) (hs : starEach [e] X.env = (false, eval e X.env) :: starEach [] X.env := by rfl) (hplain : (backTo cpos (starEach [] X.env)).any (·.1) = false := by rfl) :
    GE X (.Call (.Attribute o "pop" apos) [e] [] cpos) (.pop i (.cons c .nil)) :=
  .of (fun _ z => by cases z) <| (pe_bm PySem.F.plainAttrs_list PySem.F.slot_list_pop PySem.F.type_list_pop mt_popAt ho (gv_cons he gv_nil hs).os hbase hfew hline hs hplain).mono fun σ H Q ⟨fx, M, r, x, S, ex, k⟩ => by
    rw [evE] at ex
    obtain ⟨u0, e0, ex⟩ := R.bind_ok ex
    obtain ⟨y, e1, ex⟩ := R.bind_ok ex
    obtain ⟨ds1, e2, ex⟩ := R.bind_ok ex
    obtain ⟨u, e3, ex⟩ := R.bind_ok ex
    obtain ⟨ds0, h0⟩ := isOwnL_at e0
    obtain ⟨ad, xs0, g1, g2, _⟩ := S.own h0
    refine ⟨.ref ad, g1, .inl ⟨rfl, xs0, .inl (.inl g2)⟩, fx, M, r, y, S, e1, fun vs M1 H1 S1 s1 o1 => ?_⟩
    have sh := o1.sh S1 e2
    have h1 := ownD_at e3
    split at ex
    · obtain ⟨z, q1, q2⟩ := evOs1 e1
      rw [q2] at e2
      obtain ⟨d, _, q3⟩ := looks1 e2
      cases q3
    · rename_i ds j _
      split at ex
      · cases ex
      rename_i hsm
      have hsm : smallI j = true := by simpa using hsm
      obtain ⟨m1, m2⟩ := smallI_at hsm
      split at ex
      · rename_i n hn
        split at ex
        · rename_i d hd
          cases ex
          obtain ⟨v, rfl, hv⟩ := sh.one
          obtain ⟨ad', xs, k1, k2, k3⟩ := S1.own h1
          rw [g1] at k1
          cases k1
          obtain ⟨w, k4, k5⟩ := k3.getR hd
          obtain ⟨S2, s2⟩ := step_upd S1 h1 g1 (k3.erase n)
          have hz := (ixN_seq hn)
          exact ⟨ad, xs, j, n, w, rfl, by rw [hv.int], k2, by omega, by omega, by rw [k3.length]; exact hz.1, k4, k w M1 _ (.after (s1.trans s2) (.flat S2 (k5.mono s2.lt)))⟩
        · cases ex
      · cases ex
    · cases ex
end
end Pv

end
section
/-! Defs: what one promises; its body; its calls. -/
namespace Pv
open PySem PySem.Spec L2
open PyProof.Rows (envOfC)

/-- which addresses a call may change -/
def ioA : Nat → List Bool → List V → List (Nat × Addr)
  | i, true :: bs, .ref a :: vs => (i, a) :: ioA (i + 1) bs vs
  | i, true :: bs, _ :: vs => ioA (i + 1) bs vs
  | i, false :: bs, _ :: vs => ioA (i + 1) bs vs
  | _, _, _ => []
/-- the arguments stand for the data -/
inductive ARep (K : PySem.W.Frag) (M : Mk) (H : Hp) : Nat → List Bool → List V → List D → Prop
  | nil {i : Nat} : ARep K M H i [] [] []
  | io {i : Nat} {a : Addr} {d : D} {bs : List Bool} {vs : List V} {ds : List D} : M a = true → Top K M H a d → (∀ p ∈ ioA (i + 1) bs vs, p.2 ≠ a) → ARep K M H (i + 1) bs vs ds → ARep K M H i (true :: bs) (.ref a :: vs) (d :: ds)
  | val {i : Nat} {v : V} {d : D} {bs : List Bool} {vs : List V} {ds : List D} : Dr K (msk M H) v d → ARep K M H (i + 1) bs vs ds → ARep K M H i (false :: bs) (v :: vs) (d :: ds)
/-- what may be changed, at the end -/
inductive OutR (K : PySem.W.Frag) (M : Mk) (H : Hp) : List Bool → List V → List D → Prop
  | nil : OutR K M H [] [] []
  | io {a : Addr} {d : D} {bs : List Bool} {vs : List V} {ds : List D} : M a = true → Top K M H a d → OutR K M H bs vs ds → OutR K M H (true :: bs) (.ref a :: vs) (d :: ds)
  | val {v : V} {bs : List Bool} {vs : List V} {ds : List D} : OutR K M H bs vs ds → OutR K M H (false :: bs) (v :: vs) ds
def FVal (K : PySem.W.Frag) (M' : Mk) (H' H : Hp) (v : V) (fr : Bool) (d : D) : Prop :=
  if (fr && isMut d) = true then ∃ a, v = .ref a ∧ M' a = true ∧ Top K M' H' a d ∧ H a = none else Dr K (msk M' H') v d
structure FPost (K : PySem.W.Frag) (M : Mk) (H : Hp) (io : List Bool) (vs : List V) (outs : List D) (fr : Bool) (d : D) (v : V) (M' : Mk) (H' : Hp) : Prop where
  trk : ∀ a, M' a = true → H' a ≠ none
  frm : Sh1 M H M' H'
  res : ∀ a, M a = true → (∀ i, (i, a) ∉ ioA 0 io vs) → M' a = true ∧ H' a = H a
  mlo : ∀ a, M' a = true → M a = true ∨ H a = none
  all : ∀ a, H a ≠ none → H' a ≠ none
  outs : OutR K M' H' io vs outs
  val : FVal K M' H' H v fr d
def spF (K : PySem.W.Frag) (fn : Fn) (vs : List V) (H : Hp) (Q : VK) : Prop := ∃ M ds fr d outs, ARep K M H 0 fn.io vs ds ∧ (∀ a, M a = true → H a ≠ none) ∧ fn.den ds = .ok fr d outs ∧ ∀ v M' H', FPost K M H fn.io vs outs fr d v M' H' → Q v H'
structure FnG (P : Program) (w : World) (K : PySem.W.Frag) (mg : Str → Option Value) (base : Heap) (k : Nat) (f : Addr) (fd : FuncData) (ps : List Str) (fn : Fn) : Prop where
  len : fn.io.length = ps.length
  run : ∀ (A : Around) (outer : List PySem.Env) (s : Shared) (H : Hp) (args : Args) (us : List Value) (vs : List V) (Q : VK), Room k A → A.guards = some [] → Env0 P w K mg base A outer s H → BindsTo s fd args (ps.zip us) → Vals vs us → spF K fn vs H Q →
    codeAny (model P w) A (.call (.ref f) args) (CR C8.CX0 outer P w H s Q (fun _ _ _ => False)) s
theorem ARep.len {K : PySem.W.Frag} {M : Mk} {H : Hp} : ∀ {i : Nat} {bs : List Bool} {vs : List V} {ds : List D}, ARep K M H i bs vs ds → vs.length = bs.length ∧ ds.length = bs.length
  | _, _, _, _, .nil => ⟨rfl, rfl⟩
  | _, _, _, _, .io _ _ _ t => ⟨congrArg (· + 1) t.len.1, congrArg (· + 1) t.len.2⟩
  | _, _, _, _, .val _ t => ⟨congrArg (· + 1) t.len.1, congrArg (· + 1) t.len.2⟩
theorem FnG.mono {P : Program} {w : World} {K : PySem.W.Frag} {mg : Str → Option Value} {base : Heap} {j k : Nat} {f : Addr} {fd : FuncData} {ps : List Str} {fn : Fn} (F : FnG P w K mg base j f fd ps fn) (h : j ≤ k) : FnG P w K mg base k f fd ps fn :=
  ⟨F.len, fun A outer s H args us vs Q hr => F.run A outer s H args us vs Q (hr.mono h)⟩
/-- a plainer word for what a def does -/
theorem FnG.imp {P : Program} {w : World} {K : PySem.W.Frag} {mg : Str → Option Value} {base : Heap} {k : Nat} {f : Addr} {fd : FuncData} {ps : List Str} {fn fn' : Fn} (F : FnG P w K mg base k f fd ps fn) (hi : fn'.io = fn.io)
    (h : ∀ ds fr d outs, fn'.den ds = .ok fr d outs → fn.den ds = .ok fr d outs) : FnG P w K mg base k f fd ps fn' :=
  ⟨by rw [hi]; exact F.len, fun A outer s H args us vs Q hr hg e0 hb r ⟨M, ds, fr, d, outs, h1, h2, h3, h4⟩ => F.run A outer s H args us vs Q hr hg e0 hb r ⟨M, ds, fr, d, outs, by rw [← hi]; exact h1, h2, h _ _ _ _ h3, by rw [← hi]; exact h4⟩⟩

/-! ### a body -/
theorem ioA_ge : ∀ {bs : List Bool} {vs : List V} {i : Nat} {p : Nat × Addr}, p ∈ ioA i bs vs → i ≤ p.1
  | [], [], _, _, h => by simp [ioA] at h
  | [], _ :: _, _, _, h => by simp [ioA] at h
  | true :: _, [], _, _, h => by simp [ioA] at h
  | false :: _, [], _, _, h => by simp [ioA] at h
  | true :: bs, v :: vs, i, p, h => by
    cases v with
    | ref a =>
      rw [ioA] at h
      rcases List.mem_cons.mp h with rfl | h
      · exact Nat.le_refl _
      · have := ioA_ge h; omega
    | _ => have := ioA_ge (i := i + 1) (by simpa [ioA] using h); omega
  | false :: bs, v :: vs, i, p, h => by
    have := ioA_ge (i := i + 1) (by simpa [ioA] using h); omega
/-- the slots at the entry -/
def env0 (io : List Bool) (ds : List D) (n : Nat) : Env := (io.zip ds).map some ++ List.replicate n none
theorem entry {K : PySem.W.Frag} {M : Mk} {H : Hp} : ∀ {bs : List Bool} {vs : List V} {ds : List D} {i : Nat}, ARep K M H i bs vs ds →
    (∀ (j : Nat) (d : D), ((bs.zip ds).map some)[j]? = some (some (false, d)) → ∃ v, vs[j]? = some v ∧ Dr K (msk M H) v d) ∧
    (∀ (j : Nat) (d : D), ((bs.zip ds).map some)[j]? = some (some (true, d)) → ∃ a, vs[j]? = some (V.ref a) ∧ M a = true ∧ Top K M H a d ∧ (i + j, a) ∈ ioA i bs vs) ∧
    (∀ (j : Nat) (a b : Addr), vs[j]? = some (.ref a) → (i + j, b) ∈ ioA i bs vs → a = b) ∧
    (∀ (j k : Nat) (a : Addr), (i + j, a) ∈ ioA i bs vs → (i + k, a) ∈ ioA i bs vs → j = k)
  | [], [], [], _, .nil => ⟨fun j d e => by simp at e, fun j d e => by simp at e, fun j a b e => by simp at e, fun j k a e => by simp [ioA] at e⟩
  | _, _, _, i, .io (a := a0) h1 h2 h3 t => by
    obtain ⟨g1, g2, g3, g4⟩ := entry t
    have shift : ∀ j, i + (j + 1) = i + 1 + j := fun j => by omega
    refine ⟨fun j d e => ?_, fun j d e => ?_, fun j a b e m => ?_, fun j k a m1 m2 => ?_⟩
    · cases j with
      | zero => simp at e
      | succ j => exact g1 j d (by simpa using e)
    · cases j with
      | zero =>
        simp at e
        subst e
        exact ⟨_, rfl, h1, h2, List.mem_cons_self⟩
      | succ j =>
        obtain ⟨a, k1, k2, k3, k4⟩ := g2 j d (by simpa using e)
        exact ⟨a, by simpa using k1, k2, k3, List.mem_cons_of_mem _ (by rw [shift j]; exact k4)⟩
    · rw [ioA] at m
      cases j with
      | zero =>
        simp at e
        rcases List.mem_cons.mp m with z | m
        · injection z with _ z; rw [← e, z]
        · have := ioA_ge m; simp at this; omega
      | succ j =>
        rcases List.mem_cons.mp m with z | m
        · injection z with z _; omega
        · exact g3 j a b (by simpa using e) (by rw [← shift]; exact m)
    · rw [ioA] at m1 m2
      cases j with
      | zero =>
        cases k with
        | zero => rfl
        | succ k =>
          rcases List.mem_cons.mp m1 with z | m1
          · injection z with _ z
            rcases List.mem_cons.mp m2 with y | m2
            · injection y with y _; omega
            · exact absurd z (h3 _ m2)
          · have := ioA_ge m1; simp at this; omega
      | succ j =>
        rcases List.mem_cons.mp m1 with z | m1
        · injection z with z _; omega
        · cases k with
          | zero =>
            rcases List.mem_cons.mp m2 with y | m2
            · injection y with _ y
              exact absurd y (h3 _ m1)
            · have := ioA_ge m2; simp at this; omega
          | succ k =>
            rcases List.mem_cons.mp m2 with y | m2
            · injection y with y _; omega
            · rw [g4 j k a (by rw [← shift]; exact m1) (by rw [← shift]; exact m2)]
  | _, _, _, i, .val (v := v) h1 t => by
    obtain ⟨g1, g2, g3, g4⟩ := entry t
    have shift : ∀ j, i + (j + 1) = i + 1 + j := fun j => by omega
    refine ⟨fun j d e => ?_, fun j d e => ?_, fun j a b e m => ?_, fun j k a m1 m2 => ?_⟩
    · cases j with
      | zero =>
        simp at e
        subst e
        exact ⟨_, rfl, h1⟩
      | succ j =>
        obtain ⟨v, k1, k2⟩ := g1 j d (by simpa using e)
        exact ⟨v, by simpa using k1, k2⟩
    · cases j with
      | zero => simp at e
      | succ j =>
        obtain ⟨a, k1, k2, k3, k4⟩ := g2 j d (by simpa using e)
        exact ⟨a, by simpa using k1, k2, k3, by rw [ioA, shift j]; exact k4⟩
    · rw [ioA] at m
      cases j with
      | zero => have := ioA_ge m; simp at this; omega
      | succ j => exact g3 j a b (by simpa using e) (by rw [← shift]; exact m)
    · rw [ioA] at m1 m2
      cases j with
      | zero => have := ioA_ge m1; simp at this; omega
      | succ j =>
        cases k with
        | zero => have := ioA_ge m2; simp at this; omega
        | succ k => rw [g4 j k a (by rw [← shift]; exact m1) (by rw [← shift]; exact m2)]
theorem start_get {N : List Str} {vs : List V} {j : Nat} {v : V} (h : vs[j]? = some v) : (L2.start N vs)[j]? = some (some v) := by
  have hj := (List.getElem?_eq_some_iff.mp h).1
  unfold L2.start
  rw [List.getElem?_append_left (by simpa using hj), List.getElem?_map, h]
  rfl
theorem env0_at {io : List Bool} {ds : List D} {n j : Nat} {x : Bool × D} (h : (env0 io ds n)[j]? = some (some x)) : ((io.zip ds).map some)[j]? = some (some x) := by
  unfold env0 at h
  by_cases hj : j < ((io.zip ds).map some).length
  · rw [List.getElem?_append_left hj] at h
    exact h
  · rw [List.getElem?_append_right (by omega), List.getElem?_replicate] at h
    split at h <;> cases h
theorem SRep.start {K : PySem.W.Frag} {M : Mk} {H : Hp} {N : List Str} {io : List Bool} {vs : List V} {ds : List D} (a : ARep K M H 0 io vs ds) (trk : ∀ a, M a = true → H a ≠ none) (hN : io.length ≤ N.length) :
    SRep K ⟨H, M, ioA 0 io vs⟩ M (L2.start N vs) H (env0 io ds (N.length - io.length)) := by
  obtain ⟨l1, l2⟩ := a.len
  obtain ⟨g1, g2, g3, g4⟩ := entry a
  refine ⟨?_, fun i d e => ?_, fun i d e => ?_, fun i d b c e g m => ?_, fun i j d e b e1 e2 k1 k2 => ?_, trk, fun a h => .inl h, fun a o h1 h2 => ⟨h1, h2⟩, fun a h1 _ => ⟨h1, rfl⟩, fun a h => h⟩
  · unfold L2.start env0
    rw [List.length_append, List.length_map, List.length_replicate, List.length_append, List.length_map, List.length_replicate, List.length_zip]
    omega
  · obtain ⟨v, k1, k2⟩ := g1 i d (env0_at e)
    exact ⟨v, start_get k1, k2⟩
  · obtain ⟨b, k1, k2, k3, k4⟩ := g2 i d (env0_at e)
    exact ⟨b, start_get k1, k2, k3, .inl (by simpa using k4)⟩
  · obtain ⟨b', k1, _⟩ := g2 i d (env0_at e)
    rw [start_get k1] at g
    cases g
    exact g3 i b c k1 (by simpa using m)
  · obtain ⟨b1, q1, _, _, q2⟩ := g2 i d (env0_at e1)
    obtain ⟨b2, q3, _, _, q4⟩ := g2 j e (env0_at e2)
    rw [start_get q1] at k1
    rw [start_get q3] at k2
    cases k1
    cases k2
    exact g4 i j b q2 q4
/-- the end: what may be changed -/
theorem outs_r {K : PySem.W.Frag} {fx : Fx} {M' : Mk} {σ' : L2.St} {H' : Hp} {r' : Env} (S : SRep K fx M' σ' H' r') : ∀ {io : List Bool} {vs : List V} {i : Nat} {outs : List D}, (∀ p ∈ ioA i io vs, p ∈ fx.io) → (∀ j : Nat, io[j]? = some true → ∃ a, vs[j]? = some (V.ref a)) → io.length = vs.length → outsOf r' io i = .ok outs → OutR K M' H' io vs outs
  | [], [], _, _, _, _, _, e => by cases e; exact .nil
  | [], _ :: _, _, _, _, _, h, _ => by simp at h
  | _ :: _, [], _, _, _, _, h, _ => by simp at h
  | true :: bs, v :: vs, i, outs, hp, ha, hl, e => by
    rw [outsOf] at e
    obtain ⟨d, e1, e2⟩ := R.bind_ok e
    obtain ⟨ds, e3, e4⟩ := R.bind_ok e2
    cases e4
    obtain ⟨a, q⟩ := ha 0 rfl
    simp at q
    subst q
    obtain ⟨b, k1, k2, k3, _⟩ := S.ow i d (ownD_at e1)
    have hab := S.fst i d b a (ownD_at e1) k1 (hp _ (by rw [ioA]; exact List.mem_cons_self))
    subst hab
    exact .io k2 k3 (outs_r S (i := i + 1) (fun p m => hp p (by rw [ioA]; exact List.mem_cons_of_mem _ m)) (fun j h => by simpa using ha (j + 1) (by simpa using h)) (by simpa using hl) e3)
  | false :: bs, v :: vs, i, outs, hp, ha, hl, e => by
    rw [outsOf] at e
    exact .val (outs_r S (i := i + 1) (fun p m => hp p (by rw [ioA]; exact m)) (fun j h => by simpa using ha (j + 1) (by simpa using h)) (by simpa using hl) e)
theorem ARep.refs {K : PySem.W.Frag} {M : Mk} {H : Hp} : ∀ {i : Nat} {bs : List Bool} {vs : List V} {ds : List D}, ARep K M H i bs vs ds → ∀ j : Nat, bs[j]? = some true → ∃ a, vs[j]? = some (V.ref a)
  | _, _, _, _, .nil, j, h => by simp at h
  | _, _, _, _, .io _ _ _ t, 0, _ => ⟨_, rfl⟩
  | _, _, _, _, .io _ _ _ t, j + 1, h => by simpa using t.refs j (by simpa using h)
  | _, _, _, _, .val _ t, 0, h => by simp at h
  | _, _, _, _, .val _ t, j + 1, h => by simpa using t.refs j (by simpa using h)
def iosOf (io : List Bool) : List Nat := (List.range io.length).filter fun i => io.getD i false
theorem ioA_ios : ∀ {bs : List Bool} {vs : List V} {i : Nat} {p : Nat × Addr}, p ∈ ioA i bs vs → bs[p.1 - i]? = some true
  | [], [], _, _, h => by simp [ioA] at h
  | [], _ :: _, _, _, h => by simp [ioA] at h
  | true :: _, [], _, _, h => by simp [ioA] at h
  | false :: _, [], _, _, h => by simp [ioA] at h
  | true :: bs, v :: vs, i, p, h => by
    have rc : p ∈ ioA (i + 1) bs vs → (true :: bs)[p.1 - i]? = some true := fun h => by
      have g := ioA_ge h
      have := ioA_ios h
      rw [show p.1 - i = (p.1 - (i + 1)) + 1 by omega]
      simpa using this
    cases v with
    | ref a =>
      rw [ioA] at h
      rcases List.mem_cons.mp h with rfl | h
      · simp
      · exact rc h
    | _ => exact rc (by simpa [ioA] using h)
  | false :: bs, v :: vs, i, p, h => by
    have h : p ∈ ioA (i + 1) bs vs := by simpa [ioA] using h
    have g := ioA_ge h
    have := ioA_ios h
    rw [show p.1 - i = (p.1 - (i + 1)) + 1 by omega]
    simpa using this
theorem ios_mem {io : List Bool} {vs : List V} : ∀ p ∈ ioA 0 io vs, p.1 ∈ iosOf io := fun p h => by
  have := ioA_ios h
  rw [Nat.sub_zero] at this
  unfold iosOf
  rw [List.mem_filter, List.mem_range]
  exact ⟨(List.getElem?_eq_some_iff.mp this).1, by rw [List.getD_eq_getElem?_getD, this]; rfl⟩
theorem SRep.post {K : PySem.W.Frag} {M M' : Mk} {H H' : Hp} {io : List Bool} {vs : List V} {ds outs : List D} {σ' : L2.St} {r' : Env} {fr : Bool} {d : D} {v : V} (a : ARep K M H 0 io vs ds) (S : SRep K ⟨H, M, ioA 0 io vs⟩ M' σ' H' r') (ho : outsOf r' io 0 = .ok outs)
    (hv : VRep K ⟨H, M, ioA 0 io vs⟩ σ' M' H' r' v fr d) : FPost K M H io vs outs fr d v M' H' := by
  refine ⟨S.trk, S.frm, S.res, S.mlo, S.all, outs_r S (fun p h => h) a.refs a.len.1.symm ho, ?_⟩
  unfold VRep at hv
  unfold FVal
  split at hv
  · rename_i hb
    rw [if_pos hb]
    obtain ⟨b, e, h1, h2, _, h3⟩ := hv
    exact ⟨b, e, h1, h2, h3⟩
  · rename_i hb
    rw [if_neg hb]
    exact hv
theorem den_ok {io : List Bool} {n : Nat} {body : List CS} {ds : List D} {fr : Bool} {d : D} {outs : List D} (h : (mkFn io n body).den ds = .ok fr d outs) :
    ∃ x : Fl × Env, exSs body (env0 io ds (n - io.length)) = .ok x ∧ outsOf x.2 io 0 = .ok outs ∧ (x.1 = .ret fr d ∨ (x.1 = .next ∧ fr = false ∧ d = .none)) := by
  have h : (if ds.length = io.length then
      match exSs body (env0 io ds (n - io.length)) with
      | .ok (.ret fr d, r) => (match outsOf r io 0 with | .ok outs => FR.ok fr d outs | _ => .bad)
      | .ok (.next, r) => (match outsOf r io 0 with | .ok outs => FR.ok false .none outs | _ => .bad)
      | .ok _ => .bad
      | .err c fs _ => .err c fs
      | .bad => .bad
    else .bad) = .ok fr d outs := h
  split at h
  · split at h
    · rename_i fr' d' r e
      split at h
      · rename_i o eo
        cases h
        exact ⟨_, e, eo, .inl rfl⟩
      · cases h
    · rename_i r e
      split at h
      · rename_i o eo
        cases h
        exact ⟨_, e, eo, .inr ⟨rfl, rfl, rfl⟩⟩
      · cases h
    · cases h
    · cases h
    · cases h
  · cases h
section
variable {P : Program} {w : World} {K : PySem.W.Frag} {mg : Str → Option Value} {base : Heap}
/-- a def by its code -/
theorem fnG_of {x qual : Str} {st : Stmt} {f : Addr} {fd : FuncData} {N ps : List Str} {io : List Bool} {k : Nat} {code : List CS} (F : C8.Fun K x qual st f fd) (S : FnScope N ps (C8.fnScope st)) (hio : io.length = ps.length)
    (gb : ∀ (cdv : Value) (A : Around) (outer : List PySem.Env) (s : Shared) (H : Hp), Room k (A.deeper (envOfC qual (C8.fnScope st) s.heap.objs.size f cdv)) → A.guards = some [] →
      GB (cxOf C8.CX0 P w K mg base N qual (C8.fnScope st) f cdv A outer s H (fun _ _ _ => False)).nox (iosOf io) (C8.fnBody st) code) : FnG P w K mg base (k + 1) f fd ps (mkFn io N.length code) := by
  have hNl : io.length ≤ N.length := by
    have := congrArg List.length S.pre
    rw [List.length_take] at this
    omega
  refine ⟨hio, fun A outer s H args us vs Q hr hg e0 hb r ⟨M, ds, fr, d, outs, ha, ht, hden, hQ⟩ => ?_⟩
  obtain ⟨oc, od, dV, kV, doc, pm, an, cdv, ct, osl, rfl, lk, hcd⟩ := F.ex
  obtain ⟨y, ey, eo, hy⟩ := den_ok hden
  have ha' : ARep K M H 0 io vs ds := ha
  have hvl : vs.length = ps.length := by rw [← hio]; exact ha'.len.1
  have KX : K.In s.heap := e0.mod.kin.keeps fun b o e => (e0.bs b o e).1
  have lim : s.heap.NoLimit := e0.mod.nolimit.keeps fun b o e => (e0.bs b o e).1
  refine codeAny_call_function hr.depth (KX _ _ lk) rfl S.co S.gen rfl (PySem.W.codeRec_of KX hcd) (hb _ _ _ _ ?_)
  have kinds : ∀ z ∈ ps.zip us, (C8.fnScope st).names.lookup z.1 = some .local ∨ ((C8.fnScope st).names.lookup z.1 = some .cell ∧ ((cellsFrom (s.heap.objs.size + 1) (C8.fnScope st).names []).lookup z.1).isSome = true) := fun z hz =>
    (S.par z.1 (List.of_mem_zip (a := z.1) (b := z.2) hz).1).imp id fun q => ⟨q, PySem.W.cellsFrom_some _ _ _ (.inl q)⟩
  refine wpAny_newFunctionEnv_cells S.kind kinds fun env he s1 xc => ?_
  subst he
  refine ⟨lim.keeps xc.toInCall.keep, codeAny_func ?_⟩
  have I := inv_start (CX := C8.CX0) (E := fun _ _ _ => False) S hr.hd e0 hvl r xc
  have body := (gb cdv A outer s H (hr.deeper _) hg).ps.run [] s1 (L2.start N vs) H { nx := fun _ H' => Q .non H', rt := Q } (I.wish _)
    ⟨⟨H, M, ioA 0 io vs⟩, M, env0 io ds (N.length - io.length), y, SRep.start ha' ht hNl, ios_mem, ey, ?_⟩
  · refine wpAny_mono body (fun fl s' hs => ?_) fun e s' hs => hs.elim
    cases fl with
    | ret u =>
      obtain ⟨v, σ', H', J, rv, q⟩ := hs
      exact ⟨v, H', J.os, J.bare, J.base, J.hok, rv, q⟩
    | next =>
      obtain ⟨σ', H', J, q⟩ := hs
      exact ⟨V.non, H', J.os, J.bare, J.base, J.hok, rfl, q⟩
    | brk => exact (let ⟨_, _, _, q⟩ := hs; False.elim q)
    | cont => exact (let ⟨_, _, _, q⟩ := hs; False.elim q)
  · obtain ⟨fl, r'⟩ := y
    rcases hy with hy | ⟨hy, h1, h2⟩
    · cases hy
      exact fun v σ' M' H' S' g' s' => hQ v M' H' (SRep.post ha' S' eo g')
    · cases hy
      subst h1 h2
      exact fun σ' M' H' S' s' => hQ .non M' H' (SRep.post ha' S' eo (VRep.sh .non))
end
end Pv

end
section
/-! Calls of defs. -/
namespace Pv
open PySem PySem.Spec L2

/-! ### arguments -/
def AVal (K : PySem.W.Frag) (σ : L2.St) (M : Mk) (H : Hp) (v : V) : Nat ⊕ D → Prop
  | .inl i => σ[i]? = some (some v)
  | .inr d => Dr K (msk M H) v d
inductive AVals (K : PySem.W.Frag) (σ : L2.St) (M : Mk) (H : Hp) : List V → List (Nat ⊕ D) → Prop
  | nil : AVals K σ M H [] []
  | cons {v : V} {vs : List V} {x : Nat ⊕ D} {xs : List (Nat ⊕ D)} : AVal K σ M H v x → AVals K σ M H vs xs → AVals K σ M H (v :: vs) (x :: xs)
theorem AVal.mono {K : PySem.W.Frag} {σ : L2.St} {M M' : Mk} {H H' : Hp} {v : V} {x : Nat ⊕ D} (l : Lt (msk M H) (msk M' H')) (h : AVal K σ M H v x) : AVal K σ M' H' v x := by
  cases x with
  | inl i => exact h
  | inr d => exact Dr.mono l h
def TAs1 (K : PySem.W.Frag) (bs : List Bool) (cs : CEs) : TA := fun σ H Q => ∃ fx M r x, SRep K fx M σ H r ∧ evAs bs cs r = .ok x ∧ ∀ vs M' H', SRep K fx M' σ H' x.2 → Step σ M r H M' x.2 H' → AVals K σ M' H' vs x.1 → Q vs H'
structure GA (X : Cx) (es : List Expr) (bs : List Bool) (cs : CEs) : Prop where
  pa : PA X es (TAs1 X.K bs cs)
section
variable {X : Cx} {e : Expr} {es : List Expr} {bs : List Bool} {c : CE} {cs : CEs} {pos : Pos}
theorem ga_nil : GA X [] bs .nil := ⟨pa_nil.mono fun σ H Q ⟨fx, M, r, x, S, ex, k⟩ => by
  rw [evAs] at ex
  cases ex
  exact k [] M H S .refl .nil⟩
theorem ga_val (ha : GE X e c) (hr : GA X es bs cs) (hs : starEach (e :: es) X.env = (false, eval e X.env) :: starEach es X.env := by rfl) : GA X (e :: es) (false :: bs) (.cons c cs) := ⟨(pa_cons ha.ev hr.pa hs).mono fun σ H Q ⟨fx, M, r, x, S, ex, k⟩ => by
  rw [evAs] at ex
  simp only [Bool.false_eq_true, if_false] at ex
  obtain ⟨y, e1, e2⟩ := R.bind_ok ex
  obtain ⟨z, e3, e4⟩ := R.bind_ok e1
  cases e4
  obtain ⟨w, e5, e6⟩ := R.bind_ok e2
  cases e6
  refine ⟨fx, M, r, z, S, e3, fun v M1 H1 p => ?_⟩
  obtain ⟨M2, S2, s2, h2, _⟩ := p.shared S
  exact ⟨fx, M2, z.2.2, w, S2, e5, fun vs M3 H3 S3 s3 h3 => k _ _ _ S3 (s2.trans s3) (.cons (AVal.mono (x := .inr z.2.1) s3.lt h2) h3)⟩⟩
theorem ga_io {i : Nat} (ha : PE X e (tVar i)) (hr : GA X es bs cs) (hs : starEach (e :: es) X.env = (false, eval e X.env) :: starEach es X.env := by rfl) : GA X (e :: es) (true :: bs) (.cons (.var i) cs) := ⟨(pa_cons ha hr.pa hs).mono fun σ H Q ⟨fx, M, r, x, S, ex, k⟩ => by
  rw [evAs] at ex
  simp only [if_true] at ex
  obtain ⟨y, e1, e2⟩ := R.bind_ok ex
  obtain ⟨d, e3, e4⟩ := R.bind_ok e1
  cases e4
  obtain ⟨w, e5, e6⟩ := R.bind_ok e2
  cases e6
  obtain ⟨v, g1, _⟩ := S.slot e3
  exact ⟨v, g1, fx, M, r, w, S, e5, fun vs M3 H3 S3 s3 h3 => k _ _ _ S3 s3 (.cons g1 h3)⟩⟩
end

/-! ### what a call does to the slots -/
section
variable {K : PySem.W.Frag} {fx : Fx} {σ : L2.St} {M M' : Mk} {H H' : Hp} {r r' : Env}
/-- the slots that are handed in -/
def inls : List (Nat ⊕ D) → List Nat
  | [] => []
  | .inl i :: xs => i :: inls xs
  | .inr _ :: xs => inls xs
theorem slotsApart_tail {x : Nat ⊕ D} {xs : List (Nat ⊕ D)} (h : slotsApart (x :: xs) = true) : slotsApart xs = true ∧ ∀ i, x = .inl i → i ∉ inls xs := by
  cases x with
  | inr d => exact ⟨h, fun i e => by cases e⟩
  | inl i =>
    rw [slotsApart, Bool.and_eq_true] at h
    refine ⟨h.2, fun j e => ?_⟩
    cases e
    have h1 := h.1
    clear h
    intro hm
    induction xs with
    | nil => simp [inls] at hm
    | cons y ys ih =>
      rw [List.all_cons, Bool.and_eq_true] at h1
      cases y with
      | inl k =>
        rw [inls] at hm
        rcases List.mem_cons.mp hm with rfl | hm
        · simp at h1
        · exact ih h1.2 hm
      | inr d => exact ih h1.2 hm
theorem ioA_slot : ∀ {io : List Bool} {vs : List V} {xs : List (Nat ⊕ D)} {ds : List D} {n : Nat} {p : Nat × Addr}, AVals K σ M H vs xs → argsIn r io xs = .ok ds → p ∈ ioA n io vs → ∃ i d, i ∈ inls xs ∧ σ[i]? = some (some (.ref p.2)) ∧ r[i]? = some (some (true, d))
  | [], [], _, _, _, _, _, _, h => by simp [ioA] at h
  | [], _ :: _, _, _, _, _, _, _, h => by simp [ioA] at h
  | true :: _, [], _, _, _, _, _, _, h => by simp [ioA] at h
  | false :: _, [], _, _, _, _, _, _, h => by simp [ioA] at h
  | b :: bs, v :: vs, x :: xs, ds, n, p, .cons h t, e, m => by
    rw [argsIn] at e
    obtain ⟨d, e1, e2⟩ := R.bind_ok e
    obtain ⟨ds', e3, e4⟩ := R.bind_ok e2
    have rest : ∀ {n}, p ∈ ioA n bs vs → ∃ i d, i ∈ inls (x :: xs) ∧ σ[i]? = some (some (.ref p.2)) ∧ r[i]? = some (some (true, d)) := fun {n} m => by
      obtain ⟨i, d, k1, k2, k3⟩ := ioA_slot t e3 m
      exact ⟨i, d, by cases x <;> simp [inls, k1], k2, k3⟩
    cases b with
    | false => exact rest (by simpa [ioA] using m)
    | true =>
      cases x with
      | inr _ => cases e1
      | inl i =>
        have h : σ[i]? = some (some v) := h
        cases v with
        | ref a =>
          rw [ioA] at m
          rcases List.mem_cons.mp m with rfl | m
          · exact ⟨i, d, by simp [inls], h, ownD_at e1⟩
          · exact rest m
        | _ => exact rest (by simpa [ioA] using m)
theorem aRep_of (S : SRep K fx M σ H r) : ∀ {io : List Bool} {vs : List V} {xs : List (Nat ⊕ D)} {ds : List D} {n : Nat}, AVals K σ M H vs xs → argsIn r io xs = .ok ds → slotsApart xs = true → ARep K M H n io vs ds
  | [], _, _, _, _, .nil, e, _ => by cases e; exact .nil
  | [], _, _, _, _, .cons _ _, e, _ => by cases e
  | _ :: _, _, _, _, _, .nil, e, _ => by cases e
  | b :: bs, _, _, _, n, .cons (v := v) (x := x) h t, e, ap => by
    obtain ⟨ap1, ap2⟩ := slotsApart_tail ap
    rw [argsIn] at e
    obtain ⟨d, e1, e2⟩ := R.bind_ok e
    obtain ⟨ds', e3, e4⟩ := R.bind_ok e2
    cases e4
    have ih := aRep_of S (n := n + 1) t e3 ap1
    cases b with
    | false =>
      cases x with
      | inl _ => cases e1
      | inr d' =>
        cases e1
        exact .val h ih
    | true =>
      cases x with
      | inr _ => cases e1
      | inl i =>
        have ho := ownD_at e1
        obtain ⟨a, g1, g2, g3, _⟩ := S.ow i d ho
        have h : σ[i]? = some (some v) := h
        rw [g1] at h
        cases h
        refine .io g2 g3 (fun p m z => ?_) ih
        obtain ⟨j, d2, k1, k2, k3⟩ := ioA_slot t e3 m
        rw [z] at k2
        have := S.dist i j d d2 a ho k3 g1 k2
        exact ap2 i rfl (by rw [this]; exact k1)
/-- the slots behind the call -/
theorem argsOut_at : ∀ {io : List Bool} {xs : List (Nat ⊕ D)} {vs : List V} {ds outs : List D} {r1 r' : Env}, AVals K σ M H vs xs → argsIn r io xs = .ok ds → OutR K M' H' io vs outs → argsOut r1 xs outs = .ok r' → slotsApart xs = true → r1.length = σ.length →
    r'.length = r1.length ∧ (∀ j, j ∉ inls xs → r'[j]? = r1[j]?) ∧ (∀ j, j ∈ inls xs → ∃ a d, σ[j]? = some (some (.ref a)) ∧ r'[j]? = some (some (true, d)) ∧ M' a = true ∧ Top K M' H' a d)
  | [], [], _, _, _, r1, r', _, _, o, e, _, _ => by
    cases o with
    | nil => cases e; exact ⟨rfl, fun _ _ => rfl, fun j h => by simp [inls] at h⟩
  | [], _ :: _, _, _, _, _, _, _, e, _, _, _, _ => by cases e
  | _ :: _, [], _, _, _, _, _, _, e, _, _, _, _ => by cases e
  | b :: bs, x :: xs, _, _, outs, r1, r', .cons (v := v) h t, e, o, eo, ap, hl => by
    obtain ⟨ap1, ap2⟩ := slotsApart_tail ap
    rw [argsIn] at e
    obtain ⟨d, e1, e2⟩ := R.bind_ok e
    obtain ⟨ds', e3, e4⟩ := R.bind_ok e2
    cases b with
    | false =>
      cases x with
      | inl _ => cases e1
      | inr d' =>
        cases o with
        | val o =>
          have q := argsOut_at (io := bs) (xs := xs) (r1 := r1) (r' := r') t e3 o eo ap1 hl
          exact q
    | true =>
      cases x with
      | inr _ => cases e1
      | inl i =>
        cases o with
        | io o1 o2 o3 =>
          obtain ⟨g1, g2, g3⟩ := argsOut_at (io := bs) t e3 o3 eo ap1 (by rw [List.length_set]; exact hl)
          rw [List.length_set] at g1
          have hi : i ∉ inls xs := ap2 i rfl
          have h : σ[i]? = some (some _) := h
          have hlt : i < r1.length := by rw [hl]; exact (List.getElem?_eq_some_iff.mp h).1
          refine ⟨g1, fun j hj => ?_, fun j hj => ?_⟩
          · rw [inls, List.mem_cons, not_or] at hj
            rw [g2 j hj.2, List.getElem?_set_ne (Ne.symm hj.1)]
          · rw [inls] at hj
            rcases List.mem_cons.mp hj with rfl | hj
            · refine ⟨_, _, h, ?_, o1, o2⟩
              rw [g2 _ hi, List.getElem?_set_self hlt]
            · exact g3 j hj
theorem argsIn_own : ∀ {io : List Bool} {xs : List (Nat ⊕ D)} {ds : List D} {j : Nat}, argsIn r io xs = .ok ds → j ∈ inls xs → ∃ d, r[j]? = some (some (true, d))
  | [], [], _, _, _, h => by simp [inls] at h
  | [], _ :: _, _, _, e, _ => by cases e
  | _ :: _, [], _, _, e, _ => by cases e
  | b :: bs, x :: xs, _, j, e, h => by
    rw [argsIn] at e
    obtain ⟨d, e1, e2⟩ := R.bind_ok e
    obtain ⟨ds', e3, e4⟩ := R.bind_ok e2
    cases b with
    | false =>
      cases x with
      | inl _ => cases e1
      | inr d' => exact argsIn_own e3 h
    | true =>
      cases x with
      | inr _ => cases e1
      | inl i =>
        rw [inls] at h
        rcases List.mem_cons.mp h with rfl | h
        · exact ⟨d, ownD_at e1⟩
        · exact argsIn_own e3 h
theorem inls_io : ∀ {io : List Bool} {vs : List V} {xs : List (Nat ⊕ D)} {ds : List D} {n j : Nat} {a : Addr}, AVals K σ M H vs xs → argsIn r io xs = .ok ds → j ∈ inls xs → σ[j]? = some (some (.ref a)) → ∃ m, (m, a) ∈ ioA n io vs
  | [], _, _, _, _, _, _, .nil, _, h, _ => by simp [inls] at h
  | [], _, _, _, _, _, _, .cons _ _, e, _, _ => by cases e
  | _ :: _, _, _, _, _, _, _, .nil, e, _, _ => by cases e
  | b :: bs, _, _, _, n, j, a, .cons (v := v) (x := x) h t, e, hj, hs => by
    rw [argsIn] at e
    obtain ⟨d, e1, e2⟩ := R.bind_ok e
    obtain ⟨ds', e3, e4⟩ := R.bind_ok e2
    cases b with
    | false =>
      cases x with
      | inl _ => cases e1
      | inr d' =>
        obtain ⟨m, k⟩ := inls_io (n := n + 1) t e3 hj hs
        exact ⟨m, by simpa [ioA] using k⟩
    | true =>
      cases x with
      | inr _ => cases e1
      | inl i =>
        have h : σ[i]? = some (some v) := h
        rw [inls] at hj
        rcases List.mem_cons.mp hj with rfl | hj
        · rw [hs] at h
          cases h
          exact ⟨n, by rw [ioA]; exact List.mem_cons_self⟩
        · obtain ⟨m, k⟩ := inls_io (n := n + 1) t e3 hj hs
          refine ⟨m, ?_⟩
          cases v with
          | ref b => rw [ioA]; exact List.mem_cons_of_mem _ k
          | _ => simpa [ioA] using k
/-- behind the call -/
theorem call_post (S : SRep K fx M σ H r) {io : List Bool} {xs : List (Nat ⊕ D)} {vs : List V} {ds outs : List D} {fr : Bool} {d : D} {v : V} (av : AVals K σ M H vs xs) (ei : argsIn r io xs = .ok ds) (ap : slotsApart xs = true)
    (p : FPost K M H io vs outs fr d v M' H') (eo : argsOut r xs outs = .ok r') : EPost K fx σ M r H v fr d r' M' H' := by
  obtain ⟨l, g2, g3⟩ := argsOut_at av ei p.outs eo ap S.len.symm
  have lt : Lt (msk M H) (msk M' H') := p.frm.lt
  have so : ∀ a, SO σ r' a → SO σ r a := fun a ⟨j, e, h1, h2⟩ => by
    by_cases hj : j ∈ inls xs
    · obtain ⟨d0, q⟩ := argsIn_own ei hj
      exact ⟨j, d0, q, h2⟩
    · rw [g2 j hj] at h1
      exact ⟨j, e, h1, h2⟩
  have own : ∀ {j e}, r'[j]? = some (some (true, e)) → ∃ e', r[j]? = some (some (true, e')) := fun {j e} h => by
    by_cases hj : j ∈ inls xs
    · exact argsIn_own ei hj
    · rw [g2 j hj] at h
      exact ⟨e, h⟩
  have notio : ∀ {a : Addr}, (∀ j d, j ∈ inls xs → r[j]? = some (some (true, d)) → σ[j]? ≠ some (some (.ref a))) → ∀ i, (i, a) ∉ ioA 0 io vs := fun {a} h i m => by
    obtain ⟨j, d2, k1, k2, k3⟩ := ioA_slot av ei m
    exact h j d2 k1 k3 k2
  have step : Step σ M r H M' r' H' := ⟨p.frm, fun a h1 h2 => p.res a h1 (notio fun j d2 _ k3 k2 => h2 ⟨j, d2, k3, k2⟩), p.all, so⟩
  refine ⟨⟨by rw [l]; exact S.len, fun j e h => ?_, fun j e h => ?_, fun j e a b h k m => ?_, fun i j e f a h1 h2 k1 k2 => ?_, p.trk, fun a h => ?_, fun a o h1 h2 => ?_, fun a h1 h2 => ?_, fun a h => p.all a (S.all a h)⟩, step, ?_, fun hb a e => ?_⟩
  · by_cases hj : j ∈ inls xs
    · obtain ⟨a, d0, _, k, _⟩ := g3 j hj
      rw [k] at h
      cases h
    · rw [g2 j hj] at h
      obtain ⟨w, k1, k2⟩ := S.sh j e h
      exact ⟨w, k1, k2.mono lt⟩
  · by_cases hj : j ∈ inls xs
    · obtain ⟨a, d0, k1, k2, k3, k4⟩ := g3 j hj
      rw [k2] at h
      cases h
      obtain ⟨d1, q⟩ := argsIn_own ei hj
      obtain ⟨a', q1, _, _, q4⟩ := S.ow j d1 q
      rw [k1] at q1
      cases q1
      exact ⟨a, k1, k3, k4, q4⟩
    · rw [g2 j hj] at h
      obtain ⟨a, k1, k2, k3, k4⟩ := S.ow j e h
      obtain ⟨w1, w2⟩ := p.res a k2 (notio fun j' d2 m1 m2 m3 => hj (by rw [S.dist j j' e d2 a h m2 k1 m3]; exact m1))
      exact ⟨a, k1, w1, k3.mono lt w2, k4⟩
  · obtain ⟨e', q⟩ := own h
    exact S.fst j e' a b q k m
  · obtain ⟨e', q1⟩ := own h1
    obtain ⟨f', q2⟩ := own h2
    exact S.dist i j e' f' a q1 q2 k1 k2
  · rcases p.mlo a h with h | h
    · exact S.mlo a h
    · refine .inr (Classical.byContradiction fun z => S.all a z h)
  · obtain ⟨k1, k2⟩ := S.frm a o h1 h2
    exact p.frm a o k1 k2
  · obtain ⟨k1, k2⟩ := S.res a h1 h2
    obtain ⟨w1, w2⟩ := p.res a k1 (notio fun j d2 _ m2 m3 => by
      obtain ⟨a', q1, _, _, q4⟩ := S.ow j d2 m2
      rw [m3] at q1
      cases q1
      rcases q4 with q4 | q4
      · exact h2 j q4
      · exact S.trk a k1 (by rw [k2]; exact q4))
    exact ⟨w1, w2.trans k2⟩
  · have hv := p.val
    unfold FVal at hv
    unfold VRep
    split at hv
    · rename_i hb
      rw [if_pos hb]
      obtain ⟨a, e, w1, w2, w3⟩ := hv
      refine ⟨a, e, w1, w2, fun z => ?_, Classical.byContradiction fun z => S.all a z w3⟩
      obtain ⟨j, e', z1, z2⟩ := so a z
      obtain ⟨a', q1, q2, _⟩ := S.ow j e' z1
      rw [z2] at q1
      cases q1
      exact S.trk a q2 w3
    · rename_i hb
      rw [if_neg hb]
      exact hv
  · have hv := p.val
    unfold FVal at hv
    rw [if_pos hb] at hv
    obtain ⟨b, e', _, _, w3⟩ := hv
    rw [e] at e'
    cases e'
    exact w3
end

/-! ### a call, by its name -/
section
variable {X : Cx} {e : Expr} {es : List Expr} {cs : CEs} {k : Nat} {f : Addr} {fd : FuncData} {ps : List Str} {fn : Fn} {x : Str} {p pos : Pos}
theorem run_fnG {pins : List (Addr × Obj)} {σ : L2.St} {H : Hp} {s : Shared} {Q : VK} {args : Args} {ys : List Value} {zs : List V} (F : FnG X.prog X.w X.K X.mg X.base k f fd ps fn) (hr : Room k X.A) (hg : X.A.guards = some []) (I : L2.Inv X pins σ H s)
    (hb : BindsTo s fd args (ps.zip ys)) (r : Vals zs ys) (h : spF X.K fn zs H Q) : codeAny (model X.prog X.w) X.A (.call (.ref f) args) (fun r s' => match r with
      | .ok (.ret u) => EP X pins σ Q u s'
      | _ => False) s := by
  refine codeAny_mono (F.run X.A X.stack s H args ys zs Q hr hg I.env0 hb r h) fun r s' hq => ?_
  cases r with
  | error e => exact hq
  | ok fl =>
    cases fl with
    | ret u => exact I.after hq
    | next => exact hq
    | brk => exact hq
    | cont => exact hq
def tFn (K : PySem.W.Frag) (fn : Fn) (perm : List Nat) (t : TA) : TE := fun σ H Q => t σ H fun vs H1 => spF K fn (permL perm vs) H1 Q
theorem wp_call {M : Model} {A : Around} {pins : List (Addr × Obj)} {σ : L2.St} {Q : VK} {E : Value → Shared → Prop} {s : Shared} {f : Addr} {us : List Value} {kw : List (Str × Value)} (h : codeAny M A (.call (.ref f) ⟨us, kw⟩) (fun r s' => match r with
      | .ok (.ret u) => EP X pins σ Q u s'
      | _ => False) s) : wpAny M A (call (.ref f) us kw) (EP X pins σ Q) E s := by
  refine wpAny_call (codeAny_mono h fun r s' hq => ?_)
  cases r with
  | error e => exact hq.elim
  | ok fl =>
    cases fl with
    | ret u => exact hq
    | next => exact hq.elim
    | brk => exact hq.elim
    | cont => exact hq.elim
theorem fn_mono {fn : Fn} : ∀ σ H Q, TE1 X.K (.call fn x cs []) σ H Q → tFn X.K fn [] (TAs1 X.K fn.io cs) σ H Q := fun σ H Q ⟨fx, M, r, y, S, ex, k⟩ => by
  rw [evE] at ex
  obtain ⟨z, e1, e2⟩ := R.bind_ok ex
  split at e2
  · rename_i ap
    obtain ⟨ds, e3, e4⟩ := R.bind_ok e2
    have e3 : argsIn z.2 fn.io z.1 = .ok ds := e3
    split at e4
    · rename_i fr d outs hd
      obtain ⟨r', e5, e6⟩ := R.bind_ok e4
      cases e6
      refine ⟨fx, M, r, z, S, e1, fun vs M1 H1 S1 s1 av => ?_⟩
      exact ⟨M1, ds, fr, d, outs, aRep_of S1 av e3 ap, S1.trk, hd, fun v M2 H2 po => k _ _ _ ((call_post S1 av e3 ap po e5).after s1)⟩
    · cases e4
    · cases e4
  · cases e2
/-! keywords: nothing that is changed -/
def allR : List (Nat ⊕ D) → Bool
  | [] => true
  | .inl _ :: _ => false
  | .inr _ :: xs => allR xs
theorem evAs_allR : ∀ {cs : CEs} {bs : List Bool} {r : Env} {x : List (Nat ⊕ D) × Env}, (∀ b ∈ bs, b = false) → evAs bs cs r = .ok x → allR x.1 = true
  | .nil, bs, r, x, _, e => by
    rw [evAs] at e
    cases e
    rfl
  | .cons c cs, [], r, x, _, e => by rw [evAs] at e; cases e
  | .cons c cs, b :: bs, r, x, h, e => by
    have hb := h b List.mem_cons_self
    subst hb
    rw [evAs] at e
    simp only [Bool.false_eq_true, if_false] at e
    obtain ⟨y, e1, e2⟩ := R.bind_ok e
    obtain ⟨z, e3, e4⟩ := R.bind_ok e1
    cases e4
    obtain ⟨w, e5, e6⟩ := R.bind_ok e2
    cases e6
    show allR (Sum.inr z.2.1 :: w.1) = true
    rw [allR]
    exact evAs_allR (fun b hb => h b (List.mem_cons_of_mem _ hb)) e5
theorem allR_mem : ∀ {xs : List (Nat ⊕ D)}, allR xs = true ↔ ∀ x ∈ xs, ∃ d, x = .inr d
  | [] => by simp [allR]
  | .inl i :: xs => by simp [allR]
  | .inr d :: xs => by
    rw [allR, allR_mem (xs := xs)]
    simp
theorem allR_apart : ∀ {xs : List (Nat ⊕ D)}, allR xs = true → slotsApart xs = true
  | [], _ => rfl
  | .inl i :: xs, h => by cases h
  | .inr d :: xs, h => by rw [slotsApart]; exact allR_apart (by simpa [allR] using h)
theorem allR_out : ∀ {xs : List (Nat ⊕ D)} {r : Env} {outs : List D}, allR xs = true → argsOut r xs outs = (match outs with | [] => .ok r | _ => .bad)
  | [], r, [], _ => rfl
  | [], r, _ :: _, _ => rfl
  | .inl i :: xs, _, _, h => by cases h
  | .inr d :: xs, r, outs, h => by rw [argsOut]; exact allR_out (by simpa [allR] using h)
theorem permL_mem {α : Type} {perm : List Nat} {xs : List α} {x : α} (h : x ∈ permL perm xs) : x ∈ xs := by
  unfold permL at h
  split at h
  · exact h
  · obtain ⟨i, _, e⟩ := List.mem_filterMap.mp h
    exact List.mem_of_getElem? e
theorem AVals.len {K : PySem.W.Frag} {σ : L2.St} {M : Mk} {H : Hp} : ∀ {vs : List V} {xs : List (Nat ⊕ D)}, AVals K σ M H vs xs → vs.length = xs.length
  | _, _, .nil => rfl
  | _, _, .cons _ t => congrArg (· + 1) (AVals.len t)
theorem AVals.get {K : PySem.W.Frag} {σ : L2.St} {M : Mk} {H : Hp} : ∀ {vs : List V} {xs : List (Nat ⊕ D)} {i : Nat} {v : V}, AVals K σ M H vs xs → vs[i]? = some v → ∃ x, xs[i]? = some x ∧ AVal K σ M H v x
  | _, _, _, _, .nil, e => by simp at e
  | _, _, 0, _, .cons h _, e => by simp at e; subst e; exact ⟨_, rfl, h⟩
  | _, _, i + 1, _, .cons _ t, e => by
    obtain ⟨x, h1, h2⟩ := AVals.get (i := i) t (by simpa using e)
    exact ⟨x, by simpa using h1, h2⟩
theorem AVals.perm {K : PySem.W.Frag} {σ : L2.St} {M : Mk} {H : Hp} {vs : List V} {xs : List (Nat ⊕ D)} (h : AVals K σ M H vs xs) (perm : List Nat) : AVals K σ M H (permL perm vs) (permL perm xs) := by
  unfold permL
  split
  · exact h
  · rename_i hne
    clear hne
    induction perm with
    | nil => exact .nil
    | cons i is ih =>
      rw [List.filterMap_cons, List.filterMap_cons]
      cases q : vs[i]? with
      | none =>
        have : xs[i]? = none := by
          rw [List.getElem?_eq_none_iff] at q ⊢
          rw [← h.len]
          exact q
        rw [this]
        exact ih
      | some v =>
        obtain ⟨x, h1, h2⟩ := h.get q
        rw [h1]
        exact .cons h2 ih
theorem vals_perm {vs : List V} {us : List Value} (h : Vals vs us) (perm : List Nat) : Vals (permL perm vs) (permL perm us) := by
  unfold permL
  split
  · exact h
  · rename_i hne
    clear hne
    induction perm with
    | nil => exact .nil
    | cons i is ih =>
      rw [List.filterMap_cons, List.filterMap_cons]
      cases q : vs[i]? with
      | none =>
        have : us[i]? = none := by
          rw [List.getElem?_eq_none_iff] at q ⊢
          rw [← h.length]
          exact q
        rw [this]
        exact ih
      | some v =>
        obtain ⟨u, h1, h2⟩ := h.get q
        rw [h1]
        exact .cons h2 ih
theorem fnk_mono {fn : Fn} {perm : List Nat} (hp : perm.isEmpty = false) : ∀ σ H Q, TE1 X.K (.call fn x cs perm) σ H Q → tFn X.K fn perm (TAs1 X.K (perm.map fun _ => false) cs) σ H Q := fun σ H Q ⟨fx, M, r, y, S, ex, k⟩ => by
  rw [evE] at ex
  obtain ⟨z, e1, e2⟩ := R.bind_ok ex
  have ef : argFlags fn perm = perm.map fun _ => false := by unfold argFlags; rw [if_neg (by rw [hp]; simp)]
  rw [ef] at e1
  have hr := evAs_allR (by simp) e1
  have hr' : allR (permL perm z.1) = true := allR_mem.mpr fun x hx => allR_mem.mp hr x (permL_mem hx)
  split at e2
  · obtain ⟨ds, e3, e4⟩ := R.bind_ok e2
    split at e4
    · rename_i fr d outs hd
      obtain ⟨r', e5, e6⟩ := R.bind_ok e4
      cases e6
      rw [allR_out hr, ← allR_out hr'] at e5
      refine ⟨fx, M, r, z, S, e1, fun vs M1 H1 S1 s1 av => ?_⟩
      exact ⟨M1, ds, fr, d, outs, aRep_of S1 (av.perm perm) e3 (allR_apart hr'), S1.trk, hd, fun v M2 H2 po => k _ _ _ ((call_post S1 (av.perm perm) e3 (allR_apart hr') po e5).after s1)⟩
    · cases e4
    · cases e4
  · cases e2
theorem ge_call (F : FnG X.prog X.w X.K X.mg X.base k f fd ps fn) (hr : Room k X.A) (hG : X.A.guards = some []) (hg : Gl X x) (hm : X.mg x = some (.ref f)) (hk : PySem.W.keepIn X.K (.ref f) = true) (hb : Binds X.K fd ps []) (ha : GA X (e :: es) fn.io cs)
    (hdb : (x == ("__debug__" : Str)) = false) (he : starEach (e :: es) X.env = (false, eval e X.env) :: starEach es X.env := by rfl) (hpl : (backTo pos (starEach es X.env)).any (·.1) = false := by rfl) : GE X (.Call (.Name x p) (e :: es) [] pos) (.call fn x cs []) := by
  have h : PE X (.Call (.Name x p) (e :: es) [] pos) (tFn X.K fn [] (TAs1 X.K fn.io cs)) := ⟨fun pins s σ H Q I h => by
    refine wpAny_Call_Name_kw (ld_glob I hg hm ?_ hdb)
    refine PySem.W.callWith_K (h₀ := X.base) I.ok.mod.kin hk (thn (ha.pa.run pos pins s σ H _ I h) fun us s1 ⟨vs, H1, I1, r, q⟩ => ⟨I1.kIn, ?_⟩) he hpl
    have hl : (us ++ []).length = ps.length := by
      obtain ⟨M, ds, fr, d, outs, a, _⟩ := q
      have l := (show ARep X.K M H1 0 fn.io vs ds from a).len.1
      rw [List.append_nil, ← r.length, l, F.len]
    have bb := hb s1 us I1.kIn hl
    rw [List.append_nil] at bb
    exact wp_call (run_fnG F hr hG I1 bb r q)⟩
  exact .of (fun _ z => by cases z) (h.mono fn_mono)
/-! f(k = v, ..) -/
structure GK (X : Cx) (kws : List Keyword) (bs : List Bool) (cs : CEs) : Prop where
  pk : PK X kws (TAs1 X.K bs cs)
theorem _root_.L2.PK.mono {X : Cx} {e : List Keyword} {t t' : TA} (h : PK X e t) (i : ∀ σ H Q, t' σ H Q → t σ H Q) : PK X e t' :=
  ⟨fun p pins s σ H Q I q => h.run p pins s σ H Q I (i σ H Q q)⟩
theorem gk_nil {bs : List Bool} : GK X [] bs .nil := ⟨pk_nil.mono fun σ H Q ⟨fx, M, r, x, S, ex, k⟩ => by
  rw [evAs] at ex
  cases ex
  exact k [] M H S .refl .nil⟩
theorem gk_cons {nm : Option Str} {kpos : Pos} {c : CE} {kws : List Keyword} {bs : List Bool} (ha : GE X e c) (hr : GK X kws bs cs) : GK X (⟨nm, e, kpos⟩ :: kws) (false :: bs) (.cons c cs) := ⟨(pk_cons ha.ev hr.pk).mono fun σ H Q ⟨fx, M, r, x, S, ex, k⟩ => by
  rw [evAs] at ex
  simp only [Bool.false_eq_true, if_false] at ex
  obtain ⟨y, e1, e2⟩ := R.bind_ok ex
  obtain ⟨z, e3, e4⟩ := R.bind_ok e1
  cases e4
  obtain ⟨w, e5, e6⟩ := R.bind_ok e2
  cases e6
  refine ⟨fx, M, r, z, S, e3, fun v M1 H1 p => ?_⟩
  obtain ⟨M2, S2, s2, h2, _⟩ := p.shared S
  exact ⟨fx, M2, z.2.2, w, S2, e5, fun vs M3 H3 S3 s3 h3 => k _ _ _ S3 (s2.trans s3) (.cons (AVal.mono (x := .inr z.2.1) s3.lt h2) h3)⟩⟩
theorem evAs_len : ∀ {cs : CEs} {bs : List Bool} {r : Env} {x : List (Nat ⊕ D) × Env}, evAs bs cs r = .ok x → x.1.length = cs.length
  | .nil, bs, r, x, e => by
    rw [evAs] at e
    cases e
    rfl
  | .cons c cs, [], r, x, e => by rw [evAs] at e; cases e
  | .cons c cs, b :: bs, r, x, e => by
    rw [evAs] at e
    obtain ⟨y, e1, e2⟩ := R.bind_ok e
    obtain ⟨w, e5, e6⟩ := R.bind_ok e2
    cases e6
    show w.1.length + 1 = cs.length + 1
    rw [evAs_len e5]
theorem ge_callK {kws : List Keyword} {ks : List Str} {perm : List Nat} (F : FnG X.prog X.w X.K X.mg X.base k f fd ps fn) (hr : Room k X.A) (hG : X.A.guards = some []) (hg : Gl X x) (hm : X.mg x = some (.ref f)) (hk : PySem.W.keepIn X.K (.ref f) = true)
    (hb : ∀ ws : List Value, ws.length = cs.length → bindArgs fd ⟨[], ks.zip ws⟩ = pure (ps.zip (permL perm ws))) (hkw : GK X kws (perm.map fun _ => false) cs) (hp : perm.isEmpty = false)
    (hdb : (x == ("__debug__" : Str)) = false) (hall : (backToKw pos (keywordEach kws X.env)).all (·.1.isSome) = true := by rfl) (hks : (backToKw pos (keywordEach kws X.env)).filterMap (·.1) = ks := by rfl)
    (hpl : ((backTo pos (starEach [] X.env)).any (·.1) || (backToKw pos (keywordEach kws X.env)).any (·.1.isNone)) = false := by rfl) : GE X (.Call (.Name x p) [] kws pos) (.call fn x cs perm) := by
  have h : PE X (.Call (.Name x p) [] kws pos) (fun σ H Q => TAs1 X.K (perm.map fun _ => false) cs σ H fun vs H1 => vs.length = cs.length ∧ spF X.K fn (permL perm vs) H1 Q) := ⟨fun pins s σ H Q I h => by
    refine wpAny_Call_Name_kw (ld_glob I hg hm ?_ hdb)
    refine PySem.W.callWith_KW0 (h₀ := X.base) I.ok.mod.kin hk hall (thn (hkw.pk.run pos pins s σ H _ I h) fun ws s1 ⟨vs, H1, I1, r, ql, q⟩ => ⟨I1.kIn, ?_⟩) hpl
    rw [hks]
    exact wp_call (run_fnG F hr hG I1 (BindsTo.of_eq (hb ws (by rw [← r.length]; exact ql))) (vals_perm r perm) q)⟩
  refine .of (fun _ z => by cases z) (h.mono fun σ H Q hq => ?_)
  obtain ⟨fx, M, r, y, S, e1, kk⟩ := fnk_mono hp σ H Q hq
  exact ⟨fx, M, r, y, S, e1, fun vs M' H' S' s' av => ⟨av.len.trans (evAs_len e1), kk vs M' H' S' s' av⟩⟩
end
end Pv

end
section
/-! repr. -/
namespace Pv
open PySem PySem.Spec L2

section
variable {X : Cx}
def rRepr (K : PySem.W.Frag) : List V → Hp → VK → Prop := fun vs H Q => ∃ v d, vs = [v] ∧ Dp K H v d ∧ reprOk d = true ∧ Q (.str d.shown) H
theorem cr_repr (hu : X.A.units + 64 < cLine) (hG : X.A.guards = some []) : CallR X (.builtin "repr") (rRepr X.K) := by
  intro pins s σ H vs us Q I r h
  obtain ⟨v, d, rfl, hd, ok, q⟩ := h
  unfold reprOk at ok
  simp only [Bool.and_eq_true, decide_eq_true_eq] at ok
  obtain ⟨⟨⟨o1, o2⟩, o3⟩, o4⟩ := ok
  rw [szl] at o4
  obtain ⟨u, rfl, rv⟩ := vals1 r
  obtain ⟨as, rd⟩ := hd.reads I d v u rv
  have fin : ∀ (h' : Heap) (t tk : Nat), (∀ b o, s.heap.get? b = some o → h'.get? b = some o) → EP X pins σ Q (.str d.shown t) { s with heap := h', toks := tk } := fun h' t tk hk => ⟨.str d.shown, H, I.kept hk, ⟨t, rfl⟩, q⟩
  cases hd with
  | lst h1 h2 =>
    cases rv
    exact repr_of_reads' rd o1 (PyData.noDict_hsm (PyData.hasDict_of_canLay _ o2)) hG (by omega) (fun _ _ e => e) fin o4
  | tup h1 h2 =>
    cases rv
    exact repr_of_reads' rd o1 (PyData.noDict_hsm (PyData.hasDict_of_canLay _ o2)) hG (by omega) (fun _ _ e => e) fin o4
  | non =>
    cases rv
    exact PySem.P.repr_of_none (fin s.heap s.toks _ fun _ _ e => e)
  | bl b =>
    cases rv
    exact PySem.P.repr_of_bool (by have := fin s.heap s.toks (s.toks + 1) fun _ _ e => e; exact this)
  | int i =>
    obtain ⟨t, rfl⟩ := rv
    exact PySem.P.repr_of_int (by simpa [PyData.showable] using o1) (fin s.heap s.toks (s.toks + 1) fun _ _ e => e)
  | str x =>
    obtain ⟨t, rfl⟩ := rv
    exact PySem.P.repr_of_str (fin s.heap s.toks (s.toks + 1) fun _ _ e => e) o4
theorem bs_repr : BiS X.K (rRepr X.K) .repr := by
  intro fx M σ r H vs ds z Q S hv hb k
  unfold bi at hb
  split at hb <;> first | (rename_i hn; cases hn; done) | skip
  all_goals try cases hb
  split at hb
  · rename_i ok
    cases hb
    obtain ⟨v, rfl, h⟩ := hv.one
    refine ⟨v, _, rfl, h.all.dp ?_, ok, k _ _ _ (.flat S (.str _))⟩
    unfold reprOk at ok
    simp only [Bool.and_eq_true] at ok
    exact ok.1.1.2
  · cases hb
end
end Pv

end
section
/-! set(xs) of a tuple of tuples of ints; len(set(xs)). -/
namespace L2
open PySem PySem.Spec PyProof.Rows
section
variable {P : Program} {w : World} {A : Around} {E : Value → Shared → Prop} {s : Shared}
/-- an empty set's record -/
abbrev set00 (w : World) : Obj := { cls := .type "set", dict := none, data := .set #[] 0 (.fresh 0 0 (!w.params.followText "set-order")) }
set_option maxHeartbeats 3200000 in
theorem set_of_tup {l : Addr} {its : Array Value} (ks : List (Addr × List Int)) {Q : Value → Shared → Prop} (noh : A.handled = none) (tl : s.heap.IsTuple l its) (at0 : its.toList = ks.map fun p => Value.ref p.1) (tups : ∀ p ∈ ks, IsT P w s.heap p.2 p.1) (few : ks.length < 64) (room : A.units + 3 < cLine)
    (fin : ∀ (h' : Heap) (tk : Nat) L es ep t, SetTR P w h' s.heap.objs.size L es ep t → Got ks ks.length L → (∀ b o, s.heap.get? b = some o → h'.get? b = some o) → Q (.ref s.heap.objs.size) { s with heap := h', toks := tk }) :
    wpAny (model P w) A (call (.type "set") [.ref l]) Q E s := by
  have sz : its.size = ks.length := by have q := congrArg List.length at0; simpa using q
  obtain ⟨c0, tl0, m0⟩ := F.called_set.mro
  have m1 := F.called_set.made; have m2 := F.called_set.sub; have m3 := F.called_set.notType; have m4 := F.called_set.canCreate; have m5 := F.typeCall_set_1 (.ref l)
  refine wpAny_call (codeAny_of_tree (show wpAny _ _ (callAny (.type "set") _) _ _ _ from ?_))
  refine wpAny_pure ⟨Code.quiet_builtin _ (by decide +kernel), codeAny_builtin F.entry_type_call ?_⟩; rw [Around.under_plain (weight_type_call_type "set" [.ref l] []) rfl]
  repeat (any_goals (first | wp_step | assumption))
  refine codeAny_mono (code_set_led1 (.ref l) (E := E) (Q₁ := fun o s1 => o = .ref s.heap.objs.size ∧ s1 = { s with heap := s.heap.push (set00 w) }) ⟨rfl, rfl⟩) fun r s1 hr => ?_
  cases r with
  | error e => exact hr
  | ok fl =>
    cases fl with
    | ret o =>
      obtain ⟨rfl, rfl⟩ := hr
      have g0 : (s.heap.push (set00 w)).get? s.heap.objs.size = some (set00 w) := Heap.get?_push_size _ rfl
      have ty : Shared.TypeIs { s with heap := s.heap.push (set00 w) } (.ref s.heap.objs.size) "set" := ⟨_, g0, rfl⟩
      have n1 := F.called_set.init.lookup; have n2 := F.called_set.init.bind (.ref s.heap.objs.size)
      repeat (any_goals (first | wp_step | assumption))
      refine codeAny_mono (codeAny_call_builtin (R := wants (fun r s2 => r = .none ∧ ∃ h' tk L es ep t, s2 = { s with heap := h', toks := tk } ∧ SetTR P w h' s.heap.objs.size L es ep t ∧ Got ks ks.length L ∧ (∀ b o, s.heap.get? b = some o → h'.get? b = some o)) E)
        F.called_set.init.plain F.entry_set_init (check_set_init_1 ty ?_)) fun r2 s2 hr2 => ?_
      · obtain ⟨⟨ocl, odi, oda, osl⟩, hol, hcl, nl, hdl⟩ := tl
        simp only at hcl hdl
        subst hcl hdl
        have o1 : (s.heap.push (set00 w)).get? l = some { cls := .type "tuple", dict := odi, data := .seq its nl, slots := osl } := Heap.get?_push_of_some _ hol
        have k1 := F.sub_tuple_set; have k2 := F.sub_tuple_frozenset
        have k3 : (Value.type "tuple" == Value.type "dict") = false := by decide
        have t1 : (s.heap.push (set00 w)).IsTuple l its := ⟨_, o1, rfl, nl, rfl⟩
        unfold Builtin.«set.__init__» noKeywords Builtin.Frozenset.updateFrom
        generalize hPI : pyIter = PI; wp_walk; subst hPI
        refine wpAny_pyIter_tuple t1 (wpAny_bind (wpAny_runValue ?_))
        have lt1 : l < s.heap.objs.size := Heap.lt_size hol
        have noh3 : A.in1.in1.in1.handled = none := by simp [noh]
        have z1 : (s.heap.push (set00 w)).objs.size = s.heap.objs.size + 1 := Heap.size_push ..
        have ne1 : l ≠ (s.heap.push (set00 w)).objs.size := by rw [z1]; exact Nat.ne_of_lt (Nat.lt_succ_of_lt lt1)
        have ne2 : s.heap.objs.size ∉ [(s.heap.push (set00 w)).objs.size, l] := by
          simp only [z1, List.mem_cons, List.not_mem_nil, or_false, not_or]
          exact And.intro (Nat.ne_of_lt (Nat.lt_succ_self _)) (Nat.ne_of_gt lt1)
        have vals : ∀ (i : Nat) (v : Value), its[i]? = some v → ∃ p, ks[i]? = some p ∧ v = .ref p.1 := fun i v hv => by
          have q : (ks.map fun p => Value.ref p.1)[i]? = some v := by rw [← at0]; simpa using hv
          rw [List.getElem?_map] at q
          obtain ⟨p, h1, h2⟩ := Option.map_eq_some_iff.mp q
          exact ⟨p, h1, h2.symm⟩
        have out : ∀ b, s.heap.objs.size ≤ b → s.heap.get? b = none := fun b hb => by
          cases q : s.heap.get? b with
          | none => rfl
          | some o => exact absurd (Heap.lt_size q) (Nat.not_lt_of_le hb)
        refine set_update_tups ((Walks.tuple noh3 _ l ne1 its).toS) s.heap.objs.size ne2 ks sz few vals s.heap tups (out _ (Nat.le_refl _)) (fun b hb => out b ?_) room (its.size - 0) 0 _ (by omega) (Nat.zero_le _)
          ⟨⟨_, Heap.get?_push_size _ rfl, rfl, rfl⟩, t1.push _⟩ (fun b o e => Heap.get?_push_of_some _ (Heap.get?_push_of_some _ e)) ⟨[], #[], 0, _, setTR_fresh (Heap.get?_push_of_some _ g0), Got.zero ks⟩ ?_
        · rw [List.mem_singleton.mp hb, z1]; exact Nat.le_succ _
        · rintro ⟨h', g2, d2, tk', os'⟩ L es ep t hm hS g hkp
          obtain rfl : g2 = s.gens := hm.gens
          obtain rfl : d2 = s.drawn := hm.drawn
          obtain rfl : os' = s.os := hm.os
          rw [sz] at g
          exact wpAny_pure (show wpAny _ _ (ret Value.none) _ _ _ from wpAny_pure ⟨rfl, h', tk', L, es, ep, t, rfl, hS, g, hkp⟩)
      · cases r2 with
        | error e => exact hr2
        | ok f2 =>
          cases f2 with
          | ret r =>
            obtain ⟨rfl, h', tk, L, es, ep, t, rfl, h1, h2, h3⟩ := hr2
            repeat (any_goals (first | wp_step | assumption))
            exact fin _ _ _ _ _ _ h1 h2 h3
          | _ => exact hr2.elim
    | _ => exact hr.elim
end
end L2
end
section
/-! len(set(xs)) of a tuple of tuples of ints. -/

namespace Pv
open PySem PySem.Spec L2
section
variable {X : Cx} {a : Expr} {ca : CE} {p p2 q pos : Pos}
theorem tups_r {K : PySem.W.Frag} {H : Hp} : ∀ {xs : List V} {ds : List D} {nss : List (List Int)}, DrA K H xs ds → tupsOf? ds = some nss → ∃ ks : List (Addr × List Int), xs = ks.map (fun p => V.ref p.1) ∧ nss = ks.map (·.2) ∧ ∀ p ∈ ks, SqT K H p.1 (p.2.map V.int)
  | _, _, _, .nil, e => by cases e; exact ⟨[], rfl, rfl, fun p h => by cases h⟩
  | _, d :: ds, _, .cons h t, e => by
    cases d with
    | tuple es =>
      rw [tupsOf?] at e
      split at e
      · rename_i ns nss h1 h2
        cases e
        obtain ⟨ks, g1, g2, g3⟩ := tups_r t h2
        cases h with
        | tup k1 k2 =>
          rename_i b ys
          have ey := k2.ints h1
          subst ey
          exact ⟨(b, ns) :: ks, by rw [g1]; rfl, by rw [g2]; rfl, fun p hp => by
            rcases List.mem_cons.mp hp with rfl | hp
            · exact k1
            · exact g3 p hp⟩
      · cases e
    | _ => cases e
theorem ddI_mem : ∀ {l : List (List Int)} {x : List Int}, x ∈ ddI l ↔ x ∈ l
  | [], x => by simp [ddI]
  | y :: l, x => by
    rw [ddI]
    split
    · rename_i h
      rw [ddI_mem (l := l)]
      constructor
      · exact List.mem_cons_of_mem _
      · intro g
        rcases List.mem_cons.mp g with rfl | g
        · simpa using h
        · exact g
    · rw [List.mem_cons, List.mem_cons, ddI_mem (l := l)]
theorem ddI_nodup : ∀ l : List (List Int), (ddI l).Nodup
  | [] => List.nodup_nil
  | y :: l => by
    rw [ddI]
    split
    · exact ddI_nodup l
    · rename_i h
      exact List.nodup_cons.mpr ⟨fun g => h (by simpa using ddI_mem.mp g), ddI_nodup l⟩
theorem got_len {ks : List (Addr × List Int)} {L : List (Addr × List Int)} (g : Got ks ks.length L) (nd : (L.map (·.2)).Nodup) : L.length = (ddI (ks.map (·.2))).length := by
  have h1 : (L.map (·.2)).Perm (ddI (ks.map (·.2))) := by
    rw [List.perm_ext_iff_of_nodup nd (ddI_nodup _)]
    intro x
    rw [ddI_mem]
    constructor
    · intro h
      obtain ⟨p, hp, rfl⟩ := List.mem_map.mp h
      have := g.sub p hp
      rw [List.take_length] at this
      exact List.mem_map.mpr ⟨p, this, rfl⟩
    · intro h
      obtain ⟨p, hp, rfl⟩ := List.mem_map.mp h
      exact g.all p (by rw [List.take_length]; exact hp)
  have := h1.length_eq
  rwa [List.length_map] at this
theorem lenset_ok {d : D} {z : Bool × D} (e : bi .lenset [d] = .ok z) : ∃ xs nss, d = .tuple xs ∧ tupsOf? xs = some nss ∧ nss.length < 64 ∧ z = (false, .int (ddI nss).length) := by
  cases d with
  | tuple xs =>
    have e : (match tupsOf? xs with | some nss => if nss.length < 64 then plain (.int (ddI nss).length) else .bad | none => .bad) = R.ok z := e
    split at e
    · rename_i nss hn
      split at e
      · rename_i hf
        cases e
        exact ⟨xs, nss, rfl, hn, hf, rfl⟩
      · cases e
    · cases e
  | _ => cases e
theorem ge_lenset (hc : X.calm = true) (hu : X.A.units + 64 < cLine) (hg : Gl X "len") (hm : X.mg "len" = none) (hg2 : Gl X "set") (hm2 : X.mg "set" = none) (ha : GE X a ca)
    (na : starEach [a] X.env = (false, eval a X.env) :: starEach [] X.env := by rfl) : GE X (.Call (.Name "len" p) [.Call (.Name "set" p2) [a] [] q] [] pos) (.bi .lenset (.cons ca .nil)) := by
  have h : PE X (.Call (.Name "len" p) [.Call (.Name "set" p2) [a] [] q] [] pos) (fun σ H Q => TO1 X.K ca σ H fun x H1 => ∃ (l : Addr) (ks : List (Addr × List Int)), x = V.ref l ∧ SqT X.K H1 l (ks.map fun p => V.ref p.1) ∧ (∀ p ∈ ks, SqT X.K H1 p.1 (p.2.map V.int)) ∧ ks.length < 64 ∧ Q (.int (ddI (ks.map (·.2))).length) H1) := by
    refine ⟨fun pins s σ H Q I h => ?_⟩
    refine PyProof.Rows.Call_ (ld_blt I hg hm PySem.boot_len (PyProof.Rows.callWith_builtin1 (PyProof.Rows.args_cons ?_ rfl) rfl rfl))
    refine PyProof.Rows.Call_ (ld_blt I hg2 hm2 PyProof.Rows.boot_set (PyProof.Rows.callWith_type1 (PyProof.Rows.args_cons (thn (ha.op.run pins s σ H _ I h) fun v s1 ⟨x, H1, I1, r1, q1⟩ => PyProof.Rows.args_nil ?_) na) na rfl))
    obtain ⟨l, ks, rfl, hq, ht, hf, q1⟩ := q1
    cases r1
    obtain ⟨its, rv, tl, hz⟩ := I1.tuple hq
    have at0 : its = ks.map fun p => Value.ref p.1 := by
      clear hq ht hf q1 hz tl
      induction ks generalizing its with
      | nil => cases rv; rfl
      | cons p ks ih =>
        rw [List.map_cons] at rv
        cases rv with
        | cons r t => rw [ih _ t]; cases r; rfl
    refine set_of_tup ks (I1.ok.hd hc) (show s1.heap.IsTuple l its.toArray from tl) (by simpa using at0) (fun p hp => I1.isT (ht p hp)) hf (by omega) fun h' tk L es ep t hS g hk => ?_
    refine PyProof.Rows.args_nil ?_
    obtain ⟨o, ho, hex, hd⟩ := hS.ob
    have I2 : L2.Inv X pins σ H1 { s1 with heap := h', toks := tk } := I1.kept hk
    have hfew := hS.few
    have hn : es.size = L.length := SetTR.size (s := { s1 with heap := h', toks := tk }) hS
    have hlen := got_len g hS.nd
    refine PySem.call_len_set ho hex hd (SetTR.fits (s := { s1 with heap := h', toks := tk }) hS) (by rw [hn]; omega) ⟨.int (ddI (ks.map (·.2))).length, H1, I2.tok _, ⟨_, by rw [hn, hlen]⟩, q1⟩
  exact .of (fun _ z => by cases z) <| h.mono fun σ H Q ⟨fx, M, r, x, S, ex, k⟩ => by
    rw [evE] at ex
    obtain ⟨w, ew, ex⟩ := R.bind_ok ex
    obtain ⟨y, e1, e2⟩ := evOs1 ew
    subst e2
    obtain ⟨ds, e3, e4⟩ := R.bind_ok ex
    obtain ⟨d, e5, e6⟩ := looks1 e3
    subst e6
    obtain ⟨z, e7, e8⟩ := R.bind_ok e4
    cases e8
    refine ⟨fx, M, r, y, S, e1, fun v M1 H1 p => ?_⟩
    have h := p.val.sh p.rep e5
    obtain ⟨xs, nss, rfl, hn, hf, rfl⟩ := lenset_ok e7
    obtain ⟨l, ys, rfl, g1, _, g2⟩ := h.tuple
    obtain ⟨ks, k1, k2, k3⟩ := tups_r g2 hn
    subst k1 k2
    exact ⟨l, ks, rfl, g1, fun p hp => (msk_lt _ _).sqt (k3 p hp), by simpa using hf, k _ _ _ (.after p.step (.flat p.rep (.int _)))⟩
end
end Pv

end
section
/-! From the law's def to the law. -/
namespace Pv
open PySem PySem.Spec L2

/-- no list stands in the written part -/
def noLists (K : PySem.W.Frag) : Bool := K.all fun p => match p.2.cls with
  | .type t => t != "list"
  | _ => true
theorem mem_at : ∀ {K : List (Addr × Obj)} {a : Addr} {o : Obj}, K.lookup a = some o → (a, o) ∈ K
  | [], _, _, h => by cases h
  | (b, u) :: r, a, o, h => by
    rw [List.lookup_cons] at h
    split at h
    · rename_i e
      cases h
      rw [eq_of_beq e]
      exact List.mem_cons_self
    · exact List.mem_cons_of_mem _ (mem_at h)
theorem noLists_at {K : PySem.W.Frag} (h : noLists K = true) {a : Addr} {o : Obj} (e : K.lookup a = some o) : o.cls ≠ .type "list" := fun z => by
  have hm : (a, o) ∈ K := mem_at e
  have := List.all_eq_true.mp h _ hm
  simp only [z] at this
  exact absurd this (by decide)
theorem drA_ints {K : PySem.W.Frag} {H : Hp} (ns : List Int) : DrA K H (ns.map V.int) (ns.map PyData.int) := .ofInts ns
/-- the goal that k_head leaves, from what the law's def does -/
theorem walk_ofG {l : PySem.W.OpenLaw} {n k : Nat} {q : Program} {loose : List Str} {XP : (Str → Option Value) → Heap → Prop} {YP : World → Heap → Prop} {d : DefRec} {K : Params → PySem.W.Frag} {x : Str} {fn : Fn}
    (hn : l.most = some n) (hn2 : n ≤ sizeLine) (hdf : d.params.defaults = []) (hr : Room k callerA) (hY : ∀ (w : World) (h : Heap), YP w h → (K w.params).In h) (hK : ∀ P, noLists (K P) = true)
    (F : ∀ (w : World) (mg : Str → Option Value) (fa : Addr) (h : Heap), (K w.params).In h → h.Ns mainGlobals mg → mg d.name = some (.ref fa) →
      ∃ fd : FuncData, (∀ (s : Shared) (u : Value), BindsTo s fd ⟨[u], []⟩ [(x, u)]) ∧ ∀ base : Heap, (K w.params).In base → base.Ns mainGlobals mg → FnG l.prog w (K w.params) mg base k fa fd [x] fn)
    (hio : fn.io = [false]) (hfn : ∀ ns : List Int, ns.length ≤ n → ∃ fr outs, fn.den [.list (ns.map .int)] = .ok fr (.bool true) outs) :
    PySem.W.WalkO q loose XP YP l.row.toRowW d [] (fun f vs => PySem.call f vs) := by
  refine Att.attach_call hn hdf fun w s₀ s₁ mg mb fa o pm cd doc a vs ns G Y ho hd hcd hmg hobj hints hlen hg => ?_
  have KX := hY w _ Y
  obtain ⟨fd, hb, hF⟩ := F w mg fa _ KX G.T.g hmg
  obtain ⟨fr, outs, hden⟩ := hfn ns hlen
  have noK : (K w.params).lookup a = none := by
    cases q : (K w.params).lookup a with
    | none => rfl
    | some u =>
      have := KX a u q
      rw [hobj] at this
      cases this
      exact absurd rfl (noLists_at (hK w.params) q)
  generalize hrec : ({ cls := .type "list", data := .seq vs.toArray } : Obj) = rec at hobj
  -- the script alone is tracked, locked
  let H : Hp := fun b => if b = a then some (.frz rec (.lst (ns.map V.int))) else none
  have Ha : H a = some (.frz rec (.lst (ns.map V.int))) := if_pos rfl
  have Hb : ∀ b, b ≠ a → H b = none := fun b hb => if_neg hb
  have rv := vals_ints hints
  have hz : ns.length ≤ sizeLine := Nat.le_trans hlen hn2
  have ok : HOk l.prog w H s₁.heap := fun b u e => by
    by_cases z : b = a
    · subst z
      rw [Ha] at e
      cases e
      refine ⟨hobj, by rw [List.length_map]; exact hz, vs, 0, rv, ?_⟩
      rw [hobj, ← hrec]
    · rw [Hb b z] at e
      cases e
  have sub : ∀ {b : Addr} {o : Obj}, b ≠ a → s₁.heap.get? b = some o → (hidT s₁.heap H).get? b = some o := fun hb e => hidT_get e (Hb _ hb)
  have notA : ∀ {b : Addr} {ob : Obj} {es : Array DictEntry} {ep : Nat}, s₁.heap.get? b = some ob → ob.data = .dict es ep → b ≠ a := fun {b ob es ep} e1 e2 z => by
    subst z
    rw [hobj] at e1
    cases e1
    rw [← hrec] at e2
    cases e2
  have ns' : ∀ {b : Addr} {m : Str → Option Value}, s₁.heap.Ns b m → (hidT s₁.heap H).Ns b m := fun {b m} ⟨ob, es, ep, e1, e2, e3⟩ => ⟨ob, es, ep, sub (notA e1 e2) e1, e2, e3⟩
  have hKb : (K w.params).In (hidT s₁.heap H) := fun b ob e => sub (fun z => by rw [z, noK] at e; cases e) (KX b ob e)
  have hM : Mod (K w.params) mg (hidT s₁.heap H) := ⟨hKb, ns' G.T.g, ⟨mb, ns' G.T.b, G.T.builtins⟩, let ⟨mc, h1, h2⟩ := G.T.nolimit; ⟨mc, ns' h1, h2⟩⟩
  have e0 : Env0 l.prog w (K w.params) mg (hidT s₁.heap H) callerA [] s₁ H := ⟨rfl, hM, fun b ob e => of_hidT e, Nat.le_of_eq (hidT_size _ _), trivial, fun b hb => absurd (show b ∈ ([] : List Addr) from hb) (by simp), ok, .of_eq hg⟩
  have arg : Dr (K w.params) (msk (fun _ => false) H) (.ref a) (.list (ns.map .int)) := .lst (.inr ⟨rec, msk_some.mpr ⟨rfl, Ha⟩⟩) (.ofInts ns)
  refine codeAny_mono ((hF _ hKb (ns' G.T.g)).run callerA [] s₁ H ⟨[.ref a], []⟩ [.ref a] [.ref a] (fun v _ => v = .bl true) hr rfl e0 (hb s₁ (.ref a)) (.cons rfl .nil)
    ⟨fun _ => false, [.list (ns.map .int)], fr, .bool true, outs, by rw [hio]; exact .val arg .nil, (fun b z => by cases z), hden, fun v M' H' p => ?_⟩) fun r s' h => ?_
  · have hv := p.val
    unfold FVal at hv
    rw [show isMut (.bool true) = false from rfl, Bool.and_false] at hv
    cases hv
    rfl
  · cases r with
    | error e => exact h.elim
    | ok fl =>
      cases fl with
      | next => exact h.elim
      | brk => exact h.elim
      | cont => exact h.elim
      | ret u =>
        obtain ⟨v, H', os, bare, un, hok', rr, q⟩ := h
        subst q
        obtain rfl : u = Value.bool true := rr
        refine ⟨rfl, OldK.of_keep fun b ob e => ?_, os, bare⟩
        by_cases z : b = a
        · subst z
          obtain ⟨e2, _⟩ := hok' b _ (un.frzs b rec _ Ha)
          rw [hobj] at e
          cases e
          exact e2
        · exact un.keep b ob e (Hb b z) (by intro z; cases z) (by simp)
end Pv

end
section
/-! What a printed proof uses. -/
namespace Pv
open PySem PySem.Spec L2

def CmpG (X : Cx) (op : CmpOp) (o : COp) : Prop := ∃ rr, OpR X (compareOp op) rr ∧ OpS X.K rr fun x y => cop o x y >>= fun z => plain (.bool z)
def BinG (X : Cx) (op : Operator) (o : BOp) : Prop := ∃ rr, OpR X (binaryOp op) rr ∧ OpS X.K rr (bop o)
def AugG (X : Cx) (op : Operator) (o : BOp) : Prop := ∃ rr, OpR X (inplaceOp op) rr ∧ AugS rr o
section
variable {X : Cx} {k : Nat}
theorem c_lt (hr : Room k X.A) : CmpG X .Lt .lt := ⟨_, op_ltD hr.units, os_ord fun _ _ => rfl⟩
theorem c_le (hr : Room k X.A) : CmpG X .LtE .le := ⟨_, op_leD hr.units, os_ord fun _ _ => rfl⟩
theorem c_gt (hr : Room k X.A) : CmpG X .Gt .gt := ⟨_, op_gtD hr.units, os_ord fun _ _ => rfl⟩
theorem c_ge (hr : Room k X.A) : CmpG X .GtE .ge := ⟨_, op_geD hr.units, os_ord fun _ _ => rfl⟩
theorem c_eq (hr : Room k X.A) : CmpG X .Eq .eq := ⟨_, L2.op_eqD hr.units, os_eq⟩
theorem c_ne (hr : Room k X.A) : CmpG X .NotEq .ne := ⟨_, L2.op_neD hr.units, os_ne⟩
theorem c_in (hr : Room k X.A) : CmpG X .In .isin := ⟨_, op_inN (by have := hr.un; omega), os_in (n := false) fun x y => by show isinD x y = _; cases isinD x y <;> simp⟩
theorem c_notin (hr : Room k X.A) : CmpG X .NotIn .notin := ⟨_, op_notinN (by have := hr.un; omega), os_in (n := true) fun x y => by show (isinD x y >>= fun b => R.ok (!b)) = _; cases isinD x y <;> simp⟩
theorem c_is : CmpG X .Is .is_ := ⟨_, op_isB, os_is (n := false) fun x y => by show isD x y = _; cases isD x y <;> simp⟩
theorem c_isnot : CmpG X .IsNot .isnot := ⟨_, op_isnotB, os_is (n := true) fun x y => by show (isD x y >>= fun b => R.ok (!b)) = _; cases isD x y <;> simp⟩
theorem b_add : BinG X .Add .add := ⟨_, op_add4, os_add⟩
theorem b_sub : BinG X .Sub .sub := ⟨_, op_sub, os_sub⟩
theorem b_mul : BinG X .Mult .mul := ⟨_, op_mul4, os_mul⟩
theorem b_fdiv : BinG X .FloorDiv .fdiv := ⟨_, op_div2, os_div⟩
theorem b_mod : BinG X .Mod .mod := ⟨_, op_mod, os_mod⟩
theorem b_pow : BinG X .Pow .pow := ⟨_, op_pow, os_pow⟩
theorem b_shl : BinG X .LShift .shl := ⟨_, op_shl, os_shl⟩
theorem b_shr : BinG X .RShift .shr := ⟨_, op_shr, os_shr⟩
theorem b_and : BinG X .BitAnd .band := ⟨_, op_and, os_band⟩
theorem b_or : BinG X .BitOr .bor := ⟨_, op_or, os_bor⟩
theorem a_add : AugG X .Add .add := ⟨_, iop_add, au_add⟩
theorem a_sub : AugG X .Sub .sub := ⟨_, iop_sub, au_sub⟩
theorem a_or : AugG X .BitOr .bor := ⟨_, iop_or, au_or⟩
theorem a_and : AugG X .BitAnd .band := ⟨_, iop_and, au_and⟩
variable {e a b d : Expr} {ca cb cd c : CE} {pos : Pos}
theorem ge_c {o : COp} {op : CmpOp} (h : CmpG X op o) (ha : GE X a ca) (hb : GE X b cb) (hm : behindInMarks op b = false) : GE X (.Compare a [op] [b] pos) (.cmp o ca cb) := let ⟨_, h1, h2⟩ := h; ge_cmp h1 h2 ha hb hm
theorem gt_c {o : COp} {op : CmpOp} (h : CmpG X op o) (ha : GE X a ca) (hb : GE X b cb) (hm : behindInMarks op b = false) : GT X (.Compare a [op] [b] pos) (.val (.cmp o ca cb)) := let ⟨_, h1, h2⟩ := h; gt_cmp h1 h2 ha hb hm
theorem ge_b {o : BOp} {op : Operator} (h : BinG X op o) (ha : GE X a ca) (hb : GE X b cb) : GE X (.BinOp a op b pos) (.bin o ca cb) := let ⟨_, h1, h2⟩ := h; Pv.ge_bin h1 h2 ha hb
theorem chain_m {o o' : COp} {rr rr' : R2} (h2 : OpS X.K rr fun x y => cop o x y >>= fun z => plain (.bool z)) (h4 : OpS X.K rr' fun x y => cop o' x y >>= fun z => plain (.bool z)) :
    ∀ σ H Q, TE1 X.K (.chain o o' ca cb cd) σ H Q → tChain rr rr' (TO1 X.K ca) (TO1 X.K cb) (TO1 X.K cd) σ H Q := fun σ H Q ⟨fx, M, r, x, S, ex, k⟩ => by
  rw [evE] at ex
  obtain ⟨y, e1, ex⟩ := R.bind_ok ex
  obtain ⟨z, e2, ex⟩ := R.bind_ok ex
  obtain ⟨u, e3, ex⟩ := R.bind_ok ex
  obtain ⟨v, e4, ex⟩ := R.bind_ok ex
  obtain ⟨t, e5, ex⟩ := R.bind_ok ex
  refine ⟨fx, M, r, y, S, e1, fun v1 M1 H1 p1 => ⟨fx, M1, y.2, z, p1.rep, e2, fun v2 M2 H2 p2 => ?_⟩⟩
  refine h2 fx M2 σ z.2 H2 v1 v2 u v (false, .bool t) _ p2.rep ((p1.val.step p2.step).sh p2.rep e3) (p2.val.sh p2.rep e4) (by show (cop o u v >>= fun z => plain (.bool z)) = _; rw [e5]; rfl) fun w M3 H3 p3 => ?_
  have hw : w = .bl t := (VRep.rd p3.val).bool
  refine ⟨t, hw, ?_⟩
  have s3 := (p1.step.trans p2.step).trans p3.step
  cases t with
  | false =>
    simp only [Bool.false_eq_true, if_false] at ex ⊢
    cases ex
    exact k _ _ _ (.after s3 (.flat p3.rep (.bl _)))
  | true =>
    simp only [if_true] at ex ⊢
    obtain ⟨q, e6, ex⟩ := R.bind_ok ex
    obtain ⟨v', e7, ex⟩ := R.bind_ok ex
    obtain ⟨w', e8, ex⟩ := R.bind_ok ex
    obtain ⟨t', e9, ex⟩ := R.bind_ok ex
    cases ex
    exact ⟨fx, M3, z.2, q, p3.rep, e6, fun v4 M4 H4 p4 => h4 fx M4 σ q.2 H4 v2 v4 v' w' (false, .bool t') _ p4.rep ((p2.val.step (p3.step.trans p4.step)).sh p4.rep e7) (p4.val.sh p4.rep e8)
      (by show (cop o' v' w' >>= fun z => plain (.bool z)) = _; rw [e9]; rfl) fun w5 M5 H5 p5 => k _ _ _ (p5.after (s3.trans p4.step))⟩
theorem ge_ch {o o' : COp} {op op' : CmpOp} (h : CmpG X op o) (h' : CmpG X op' o') (ha : GE X a ca) (hb : GE X b cb) (hd : GE X d cd) (hm : lastMarks [op, op'] [b, d] = false := by with_unfolding_all rfl) : GE X (.Compare a [op, op'] [b, d] pos) (.chain o o' ca cb cd) :=
  let ⟨_, h1, h2⟩ := h; let ⟨_, h3, h4⟩ := h'; .of (fun _ z => by cases z) ((pe_chain h1 h3 ha.op hb.op hd.op hm).mono (chain_m h2 h4))
theorem chain_bool {o o' : COp} {r : Env} {x : Bool × D × Env} (e : evE (.chain o o' ca cb cd) r = .ok x) : ∃ t, x.2.1 = .bool t := by
  rw [evE] at e
  obtain ⟨y, e1, e⟩ := R.bind_ok e
  obtain ⟨z, e2, e⟩ := R.bind_ok e
  obtain ⟨u, e3, e⟩ := R.bind_ok e
  obtain ⟨v, e4, e⟩ := R.bind_ok e
  obtain ⟨t, e5, e⟩ := R.bind_ok e
  split at e
  · obtain ⟨q, e6, e⟩ := R.bind_ok e
    obtain ⟨v', e7, e⟩ := R.bind_ok e
    obtain ⟨w', e8, e⟩ := R.bind_ok e
    obtain ⟨t', e9, e⟩ := R.bind_ok e
    cases e
    exact ⟨_, rfl⟩
  · cases e
    exact ⟨_, rfl⟩
theorem gt_ch {o o' : COp} {op op' : CmpOp} (h : CmpG X op o) (h' : CmpG X op' o') (ha : GE X a ca) (hb : GE X b cb) (hd : GE X d cd) (hm : lastMarks [op, op'] [b, d] = false := by with_unfolding_all rfl) : GT X (.Compare a [op, op'] [b, d] pos) (.val (.chain o o' ca cb cd)) := by
  obtain ⟨_, h1, h2⟩ := h
  obtain ⟨_, h3, h4⟩ := h'
  refine ⟨(pt_chain h1 h3 ha.op hb.op hd.op hm).mono fun σ H Q ⟨fx, M, r, x, S, ex, k⟩ => ?_⟩
  rw [evT, opnd_val (fun _ z => by cases z)] at ex
  obtain ⟨w, ew, ex⟩ := R.bind_ok ex
  obtain ⟨y, ew', e0⟩ := R.bind_ok ew
  cases e0
  obtain ⟨t, ht⟩ := chain_bool ew'
  refine chain_m h2 h4 σ H _ ⟨fx, M, r, y, S, ew', fun v M1 H1 p => ?_⟩
  have hv := p.val.rd
  rw [ht] at hv
  refine ⟨t, hv.bool, ?_⟩
  have ex : (look y.2.2 (.inr y.2.1) >>= fun u => truthR u >>= fun t => R.ok (t, y.2.2)) = .ok x := ex
  rw [ht] at ex
  cases ex
  exact k _ _ p.rep p.step
theorem gs_a {ios : List Nat} {i : Nat} {x : Str} {o : BOp} {op : Operator} {pos' : Pos} (h : AugG X op o) (hN : X.N.Nodup) (hi : X.N[i]? = some x) (hx : Loc X.env.scope x) (he : GE X e c) (hf : X.fn x = true ∨ X.env.scope.names.lookup x = some .local) :
    GS X ios (.AugAssign (.Name x pos') op e pos) (.aug i o c) := let ⟨_, h1, h2⟩ := h; gs_aug hN hi hx he h1 h2 hf
end

/-! ### defs under their names -/
structure CalG (P : Program) (w : World) (K : PySem.W.Frag) (mg : Str → Option Value) (base : Heap) (k : Nat) (x : Str) (st : Stmt) (ps : List Str) (fn : Fn) : Prop where
  ex : ∃ (f : Addr) (fd : FuncData), FnG P w K mg base k f fd ps fn ∧ mg x = some (.ref f) ∧ PySem.W.keepIn K (.ref f) = true ∧
    (∃ (kV doc pm : Value) (an : Option Addr) (cdv ct : Value), fd = PySem.W.fnOf x x (C8.fnArgs st) (C8.fnBody st) (C8.fnScope st) .none kV doc pm an cdv ct) ∧ ∃ (oc : Value) (od : Option Addr) (osl : Array (Option Value)), K.lookup f = some ⟨oc, od, .func fd, osl⟩
structure DefG (K : PySem.W.Frag) (mg : Str → Option Value) (x : Str) (st : Stmt) : Prop where
  ex : ∃ (f : Addr) (fd : FuncData), C8.Fun K x x st f fd ∧ mg x = some (.ref f) ∧ PySem.W.keepIn K (.ref f) = true ∧
    ∃ (kV doc pm : Value) (an : Option Addr) (cdv ct : Value), fd = PySem.W.fnOf x x (C8.fnArgs st) (C8.fnBody st) (C8.fnScope st) .none kV doc pm an cdv ct
theorem DefG.mk' {K : PySem.W.Frag} {mg : Str → Option Value} {h : Heap} {x : Str} {st : Stmt} {f : Addr} {oc kV doc pm cdv ct : Value} {od an : Option Addr} {osl : Array (Option Value)} (X : K.In h) (G : h.Ns mainGlobals mg)
    (a : PySem.W.nsIn K mainGlobals x = some (some (.ref f))) (lk : K.lookup f = some ⟨oc, od, .func (PySem.W.fnOf x x (C8.fnArgs st) (C8.fnBody st) (C8.fnScope st) .none kV doc pm an cdv ct), osl⟩) (hc : PySem.W.codeIn K cdv x = true) (hk : PySem.W.keepIn K (.ref f) = true) : DefG K mg x st :=
  ⟨f, _, ⟨oc, od, .none, kV, doc, pm, an, cdv, ct, osl, rfl, lk, hc⟩, PySem.W.mg_of X G a, hk, kV, doc, pm, an, cdv, ct, rfl⟩
section
variable {P : Program} {w : World} {K : PySem.W.Frag} {mg : Str → Option Value} {base : Heap} {x : Str} {st : Stmt} {ps : List Str} {fn : Fn} {k : Nat}
open PyProof.Rows (envOfC) in
theorem DefG.cal {N : List Str} {io : List Bool} {code : List CS} (F : DefG K mg x st) (S : FnScope N ps (C8.fnScope st)) (hio : io.length = ps.length)
    (gb : ∀ (f : Addr) (cdv : Value) (A : Around) (outer : List PySem.Env) (s : Shared) (H : Hp), Room k (A.deeper (envOfC x (C8.fnScope st) s.heap.objs.size f cdv)) → A.guards = some [] →
      GB (cxOf C8.CX0 P w K mg base N x (C8.fnScope st) f cdv A outer s H (fun _ _ _ => False)).nox (iosOf io) (C8.fnBody st) code) : CalG P w K mg base (k + 1) x st ps (mkFn io N.length code) :=
  let ⟨f, fd, h1, h2, h3, h4⟩ := F.ex; let ⟨oc, od, _, _, _, _, _, _, _, osl, _, lk, _⟩ := h1.ex; ⟨f, fd, fnG_of h1 S hio (gb f), h2, h3, h4, oc, od, osl, lk⟩
theorem CalG.imp (c : CalG P w K mg base k x st ps fn) {fn' : Fn} (hi : fn'.io = fn.io) (h : ∀ ds fr d outs, fn'.den ds = .ok fr d outs → fn.den ds = .ok fr d outs) : CalG P w K mg base k x st ps fn' :=
  let ⟨f, fd, h1, h2⟩ := c.ex; ⟨f, fd, h1.imp hi h, h2⟩
end
section
variable {X : Cx} {j k : Nat} {x : Str} {st : Stmt} {ps : List Str} {fn : Fn} {e : Expr} {es : List Expr} {cs : CEs} {p pos : Pos}
theorem ge_f (c : CalG X.prog X.w X.K X.mg X.base k x st ps fn) (hr : Room j X.A) (hk : k ≤ j) (hG : X.A.guards = some []) (hg : Gl X x)
    (hb : ∀ (kV doc pm : Value) (an : Option Addr) (cdv ct : Value) (us : List Value), us.length = ps.length → bindArgs (PySem.W.fnOf x x (C8.fnArgs st) (C8.fnBody st) (C8.fnScope st) .none kV doc pm an cdv ct) ⟨us, []⟩ = pure (ps.zip us)) (ha : GA X (e :: es) fn.io cs)
    (hdb : (x == ("__debug__" : Str)) = false) (he : starEach (e :: es) X.env = (false, eval e X.env) :: starEach es X.env := by rfl) (hpl : (backTo pos (starEach es X.env)).any (·.1) = false := by rfl) : GE X (.Call (.Name x p) (e :: es) [] pos) (.call fn x cs []) := by
  obtain ⟨f, fd, F, hm, kp, ⟨kV, doc, pm, an, cdv, ct, rfl⟩, _⟩ := c.ex
  exact ge_call F (hr.mono hk) hG hg hm kp (.all (hb kV doc pm an cdv ct)) ha hdb he hpl
theorem ge_fK {kws : List Keyword} {ks : List Str} {perm : List Nat} {n : Nat} (c : CalG X.prog X.w X.K X.mg X.base k x st ps fn) (hr : Room j X.A) (hk : k ≤ j) (hG : X.A.guards = some []) (hg : Gl X x)
    (hb : ∀ (kV doc pm : Value) (an : Option Addr) (cdv ct : Value) (ws : List Value), ws.length = n → bindArgs (PySem.W.fnOf x x (C8.fnArgs st) (C8.fnBody st) (C8.fnScope st) .none kV doc pm an cdv ct) ⟨[], ks.zip ws⟩ = pure (ps.zip (permL perm ws)))
    (hkw : GK X kws (perm.map fun _ => false) cs) (hn : cs.length = n) (hp : perm.isEmpty = false) (hdb : (x == ("__debug__" : Str)) = false) (hall : (backToKw pos (keywordEach kws X.env)).all (·.1.isSome) = true := by rfl) (hks : (backToKw pos (keywordEach kws X.env)).filterMap (·.1) = ks := by rfl)
    (hpl : ((backTo pos (starEach [] X.env)).any (·.1) || (backToKw pos (keywordEach kws X.env)).any (·.1.isNone)) = false := by rfl) : GE X (.Call (.Name x p) [] kws pos) (.call fn x cs perm) := by
  obtain ⟨f, fd, F, hm, kp, ⟨kV, doc, pm, an, cdv, ct, rfl⟩, _⟩ := c.ex
  subst hn
  exact ge_callK F (hr.mono hk) hG hg hm kp (hb kV doc pm an cdv ct) hkw hp hdb hall hks hpl
end
end Pv

end
section
/-! The evaluator, arm by arm. -/
namespace Pv
open PySem hiding Env
theorem e_var {i} {r} : evE (.var i) r = (share r i >>= fun x => .ok (false, x.1, x.2)) := by first | rfl | rw [evE]
theorem e_k {d} {r} : evE (.k d) r = (.ok (false, d, r)) := by first | rfl | rw [evE]
theorem e_bin {o a b} {r} : evE (.bin o a b) r = (opnd a (evE a) r >>= fun x => opnd b (evE b) x.2 >>= fun y => look y.2 x.1 >>= fun u => look y.2 y.1 >>= fun v => bop o u v >>= fun z => .ok (z.1, z.2, y.2)) := by first | rfl | rw [evE]
theorem e_un {o a} {r} : evE (.un o a) r = (opnd a (evE a) r >>= fun x => look x.2 x.1 >>= fun u => uop o u >>= fun z => .ok (false, z, x.2)) := by first | rfl | rw [evE]
theorem e_land {a b} {r} : evE (.land a b) r = (evE a r >>= fun x => truthR x.2.1 >>= fun t => if t then evE b x.2.2 else .ok (false, x.2.1, x.2.2)) := by first | rfl | rw [evE]
theorem e_lor {a b} {r} : evE (.lor a b) r = (evE a r >>= fun x => truthR x.2.1 >>= fun t => if t then .ok (false, x.2.1, x.2.2) else evE b x.2.2) := by first | rfl | rw [evE]
theorem e_cmp {o a b} {r} : evE (.cmp o a b) r = (opnd a (evE a) r >>= fun x => opnd b (evE b) x.2 >>= fun y => look y.2 x.1 >>= fun u => look y.2 y.1 >>= fun v => cop o u v >>= fun z => .ok (false, .bool z, y.2)) := by first | rfl | rw [evE]
theorem e_chain {o o' a b c} {r} : evE (.chain o o' a b c) r = (opnd a (evE a) r >>= fun x => opnd b (evE b) x.2 >>= fun y => look y.2 x.1 >>= fun u => look y.2 y.1 >>= fun v => cop o u v >>= fun z =>
        if z then opnd c (evE c) y.2 >>= fun q => look q.2 y.1 >>= fun v' => look q.2 q.1 >>= fun w => cop o' v' w >>= fun z' => .ok (false, .bool z', q.2) else .ok (false, .bool false, y.2)) := by first | rfl | rw [evE]
theorem e_ite {c a b} {r} : evE (.ite c a b) r = (evT c r >>= fun t => if t.1 then evE a t.2 else evE b t.2) := by first | rfl | rw [evE]
theorem e_tst {c} {r} : evE (.tst c) r = (evT c r >>= fun t => .ok (false, .bool t.1, t.2)) := by first | rfl | rw [evE]
theorem e_tup {es} {r} : evE (.tup es) r = (evEs es r >>= fun x => .ok (false, .tuple x.1, x.2)) := by first | rfl | rw [evE]
theorem e_lst {es} {r} : evE (.lst es) r = (evEs es r >>= fun x => .ok (true, .list x.1, x.2)) := by first | rfl | rw [evE]
theorem e_sub {a i} {r} : evE (.sub a i) r = (opnd a (evE a) r >>= fun x => opnd i (evE i) x.2 >>= fun y => look y.2 x.1 >>= fun u => look y.2 y.1 >>= fun v => subD u v >>= fun z => .ok (false, z, y.2)) := by first | rfl | rw [evE]
theorem e_slc {a lo hi} {r} : evE (.slc a lo hi) r = (opnd a (evE a) r >>= fun x => evO lo x.2 >>= fun l => evO hi l.2 >>= fun h => look h.2 x.1 >>= fun u => slcD u l.1 h.1 >>= fun z => .ok (z.1, z.2, h.2)) := by first | rfl | rw [evE]
theorem e_call {f x es perm} {r} : evE (.call f x es perm) r = (evAs (argFlags f perm) es r >>= fun x => if slotsApart x.1 then
        argsIn x.2 f.io (permL perm x.1) >>= fun ds => match f.den ds with
          | .ok fr d outs => argsOut x.2 x.1 outs >>= fun r' => .ok (fr, d, r')
          | .err c fs => .err c fs x.2
          | .bad => .bad
        else .bad) := by first | rfl | rw [evE]
theorem e_bi {b es} {r} : evE (.bi b es) r = (evOs es r >>= fun x => looks x.2 x.1 >>= fun ds => bi b ds >>= fun z => .ok (z.1, z.2, x.2)) := by first | rfl | rw [evE]
theorem e_pop {i es} {r} : evE (.pop i es) r = (isOwnL r i >>= fun _ => evOs es r >>= fun x => looks x.2 x.1 >>= fun ds => ownD x.2 i >>= fun u => match u, ds with
        | .list xs, [] => (match xs.getLast? with | some y => .ok (false, y, x.2.set i (some (true, .list xs.dropLast))) | none => .bad)
        | .list xs, [.int k] => if !smallI k then .bad else (match ixD xs.length k with | some j => (match xs[j]? with | some y => .ok (false, y, x.2.set i (some (true, .list (xs.eraseIdx j)))) | none => .bad) | none => .bad)
        | _, _ => .bad) := by first | rfl | rw [evE]
theorem e_isi {a t} {r} : evE (.isi a t) r = (opnd a (evE a) r >>= fun x => look x.2 x.1 >>= fun u => match u with | .dict _ => .bad | u => .ok (false, .bool (isT u t), x.2)) := by first | rfl | rw [evE]
theorem x_set {i e} {r} : exS (.set i e) r = (evE e r >>= fun x => .ok (.next, setE x.2.2 i x.1 x.2.1)) := by first | rfl | rw [exS]
theorem x_setT {is e} {r} : exS (.setT is e) r = (evE e r >>= fun x => bindT x.2.2 (.tup is) x.2.1 >>= fun r' => .ok (.next, r')) := by first | rfl | rw [exS]
theorem x_par {is es} {r} : exS (.par is es) r = (evFs es r >>= fun x => if x.1.length = is.length then .ok (.next, (is.zip x.1).foldl (fun r p => setE r p.1 p.2.1 p.2.2) x.2) else .bad) := by first | rfl | rw [exS]
theorem x_put {i k e} {r} : exS (.put i k e) r = (evE e r >>= fun x => isOwnL x.2.2 i >>= fun _ => opnd k (evE k) x.2.2 >>= fun y => look y.2 y.1 >>= fun kd => ownD y.2 i >>= fun u => match u with
        | .list xs => (match kd with | .int j => (match ixD xs.length j with | some j => .ok (.next, y.2.set i (some (true, .list (xs.set j x.2.1)))) | none => .bad) | _ => .bad)
        | _ => .bad) := by first | rfl | rw [exS]
theorem x_aug {i o e} {r} : exS (.aug i o e) r = (slotD r i >>= fun _ => opnd e (evE e) r >>= fun y => look y.2 y.1 >>= fun v => slotD y.2 i >>= fun u => match u, v with
        | .int n, .int m => bop o (.int n) (.int m) >>= fun z => .ok (.next, y.2.set i (some (false, z.2)))
        | _, _ => .bad) := by first | rfl | rw [exS]
theorem x_ifs {c a b} {r} : exS (.ifs c a b) r = (evT c r >>= fun t => if t.1 then exSs a t.2 else exSs b t.2) := by first | rfl | rw [exS]
theorem x_expr {e} {r} : exS (.expr e) r = (evE e r >>= fun x => .ok (.next, x.2.2)) := by first | rfl | rw [exS]
theorem x_app {i e} {r} : exS (.app i e) r = (isOwnL r i >>= fun _ => evE e r >>= fun x => ownD x.2.2 i >>= fun u => match u with
        | .list xs => if xs.length < SZ then .ok (.next, x.2.2.set i (some (true, .list (xs ++ [x.2.1])))) else .bad
        | _ => .bad) := by first | rfl | rw [exS]
theorem x_ext {i e} {r} : exS (.ext i e) r = (isOwnL r i >>= fun _ => opnd e (evE e) r >>= fun y => look y.2 y.1 >>= fun v => ownD y.2 i >>= fun u => match u, v with
        | .list xs, .list ys => if xs.length + ys.length ≤ SZ then .ok (.next, y.2.set i (some (true, .list (xs ++ ys)))) else .bad
        | _, _ => .bad) := by first | rfl | rw [exS]
theorem x_raise {c} {r} : exS (.raise c) r = (.err c [] r) := by first | rfl | rw [exS]
theorem x_brk {r} : exS (.brk ) r = (.ok (.brk, r)) := by first | rfl | rw [exS]
theorem x_cont {r} : exS (.cont ) r = (.ok (.cont, r)) := by first | rfl | rw [exS]
theorem x_pass {r} : exS (.pass ) r = (.ok (.next, r)) := by first | rfl | rw [exS]
theorem x_retv {i r} : exS (.ret (.var i)) r = (match r[i]? with | some (some (fr, d)) => .ok (.ret fr d, r.set i none) | _ => .bad) := by first | rfl | rw [exS]
theorem x_rete {e r} (h : ∀ i, e ≠ .var i) : exS (.ret e) r = (evE e r >>= fun x => .ok (.ret x.1 x.2.1, x.2.2)) := by rw [exS]; exact h
end Pv

end
section
set_option maxHeartbeats 4000000
namespace Lw
open PySem PySem.Spec L2 Pv
def topS (i : Nat) : Stmt := PySem.Challenge.pw_opendeeds_k54_outer_points.main.body.getD i (.Pass ⟨0, 0, 0, 0⟩)
/-! is_integer -/
noncomputable def k_is_integer : List CS := [.ret (.land (.isi (.var 0) "int") (.tst (.not (.val (.isi (.var 0) "bool")))))]
noncomputable def f_is_integer : Fn := mkFn [false] 1 k_is_integer
theorem s_is_integer : FnScope ["thing"] ["thing"] (C8.fnScope (topS 5)) := C8.fnScope_by (by decide +kernel)
theorem b_is_integer : ∀ (kV doc pm : Value) (an : Option Addr) (cdv ct : Value) (us : List Value), us.length = (["thing"] : List Str).length → bindArgs (PySem.W.fnOf "is_integer" "is_integer" (C8.fnArgs (topS 5)) (C8.fnBody (topS 5)) (C8.fnScope (topS 5)) .none kV doc pm an cdv ct) ⟨us, []⟩ = pure ((["thing"] : List Str).zip us) := fun _ _ _ _ _ _ us h => match us, h with
  | [_], _ => rfl
theorem ok_is_integer {P : Program} {w : World} {K : PySem.W.Frag} {mg : Str → Option Value} {base : Heap} (F : DefG K mg "is_integer" (topS 5)) (z_bool : mg "bool" = none) (z_int : mg "int" = none) (z_isinstance : mg "isinstance" = none) (it_bool : isTab K "bool" = true) (it_int : isTab K "int" = true) : CalG P w K mg base 1 "is_integer" (topS 5) ["thing"] f_is_integer :=
  have S := s_is_integer
  F.cal S rfl fun f cdv A outer s H hr hG => (gb_cons (gs_ret (ge_and (ge_isi (by rfl) z_isinstance (ge_var (pe_var (i := 0) rfl (.inl rfl))) (pe_bltn (by rfl) z_int PyProof.Rows.boot_int rfl) it_int) (ge_one (ge_not (ge_isi (by rfl) z_isinstance (ge_var (pe_var (i := 0) rfl (.inl rfl))) (pe_bltn (by rfl) z_bool PyProof.Rows.boot_bool rfl) it_bool)))) (by intro _ h; cases h))
    gb_nil)
/-! is_row -/
noncomputable def k_is_row : List CS := [.ret (.land (.isi (.var 0) "tuple") (.chain .le .le (.var 1) (.bi .len (.cons (.var 0) .nil)) (.var 2)))]
noncomputable def f_is_row : Fn := mkFn [false, false, false] 3 k_is_row
theorem s_is_row : FnScope ["thing", "least", "most"] ["thing", "least", "most"] (C8.fnScope (topS 7)) := C8.fnScope_by (by decide +kernel)
theorem b_is_row : ∀ (kV doc pm : Value) (an : Option Addr) (cdv ct : Value) (us : List Value), us.length = (["thing", "least", "most"] : List Str).length → bindArgs (PySem.W.fnOf "is_row" "is_row" (C8.fnArgs (topS 7)) (C8.fnBody (topS 7)) (C8.fnScope (topS 7)) .none kV doc pm an cdv ct) ⟨us, []⟩ = pure ((["thing", "least", "most"] : List Str).zip us) := fun _ _ _ _ _ _ us h => match us, h with
  | [_, _, _], _ => rfl
theorem ok_is_row {P : Program} {w : World} {K : PySem.W.Frag} {mg : Str → Option Value} {base : Heap} (F : DefG K mg "is_row" (topS 7)) (z_isinstance : mg "isinstance" = none) (z_len : mg "len" = none) (z_tuple : mg "tuple" = none) (it_tuple : isTab K "tuple" = true) : CalG P w K mg base 1 "is_row" (topS 7) ["thing", "least", "most"] f_is_row :=
  have S := s_is_row
  F.cal S rfl fun f cdv A outer s H hr hG => (gb_cons (gs_ret (ge_and (ge_isi (by rfl) z_isinstance (ge_var (pe_var (i := 0) rfl (.inl rfl))) (pe_bltn (by rfl) z_tuple PyProof.Rows.boot_tuple rfl) it_tuple) (ge_one (ge_ch (c_le hr) (c_le hr) (ge_var (pe_var (i := 1) rfl (.inl rfl))) (ge_biB bs_len call_len PySem.boot_len (by decide) (by rfl) z_len (gv_cons (ge_var (pe_var (i := 0) rfl (.inl rfl))) gv_nil) (by decide)) (ge_var (pe_var (i := 2) rfl (.inl rfl)))))) (by intro _ h; cases h))
    gb_nil)
/-! is_ascending -/
noncomputable def k_is_ascending : List CS := [.ret (.bi .all (.cons (.lc (.cmp .lt (.var 1) (.var 2)) (.zip (.var 0) (.slc (.var 0) (.cons (.k (.int 1)) .nil) .nil)) (.tup [1, 2]) .nil [1, 2]) .nil))]
noncomputable def f_is_ascending : Fn := mkFn [false] 3 k_is_ascending
theorem s_is_ascending : FnScope ["things", "one", "other"] ["things"] (C8.fnScope (topS 8)) := C8.fnScope_by (by decide +kernel)
theorem b_is_ascending : ∀ (kV doc pm : Value) (an : Option Addr) (cdv ct : Value) (us : List Value), us.length = (["things"] : List Str).length → bindArgs (PySem.W.fnOf "is_ascending" "is_ascending" (C8.fnArgs (topS 8)) (C8.fnBody (topS 8)) (C8.fnScope (topS 8)) .none kV doc pm an cdv ct) ⟨us, []⟩ = pure ((["things"] : List Str).zip us) := fun _ _ _ _ _ _ us h => match us, h with
  | [_], _ => rfl
theorem ok_is_ascending {P : Program} {w : World} {K : PySem.W.Frag} {mg : Str → Option Value} {base : Heap} (F : DefG K mg "is_ascending" (topS 8)) (z_all : mg "all" = none) (z_zip : mg "zip" = none) : CalG P w K mg base 1 "is_ascending" (topS 8) ["things"] f_is_ascending :=
  have S := s_is_ascending
  F.cal S rfl fun f cdv A outer s H hr hG => (gb_cons (gs_ret (ge_biB bs_all (cr_all rfl) PyProof.Rows.boot_all (by decide) (by rfl) z_all (gv_cons (ge_lc (own := [("one", 1), ("other", 2)]) rfl S.nd (gi_zip (by rfl) z_zip (ge_var (pe_var (i := 0) rfl (.inl rfl))) (ge_slc (ge_var (pe_var (i := 0) rfl (.inl rfl))) (go_some (ge_k pe_int fun _ => .int _)) go_none)) (blkOk_by (by kernel_rfl)) (fun _ _ _ _ _ => (gg_tup rfl (gs_cons (pg_name (i := 1) S.nd rfl (.inl rfl)) (gs_cons (pg_name (i := 2) S.nd rfl (.inl rfl)) gs_nil)))) (fun _ _ _ _ _ => gts_nil) (fun _ _ _ _ _ => (ge_c (c_lt hr) (ge_var (pe_var (i := 1) rfl (.inl rfl))) (ge_var (pe_var (i := 2) rfl (.inl rfl))) (nomark _))) (by rfl)) gv_nil) (by decide)) (by intro _ h; cases h))
    gb_nil)
/-! is_on_side -/
noncomputable def k_is_on_side : List CS := [.set 2 (.bin .sub (.bin .mul (.sub (.var 0) (.k (.int 0))) (.sub (.var 1) (.k (.int 1)))) (.bin .mul (.sub (.var 0) (.k (.int 1))) (.sub (.var 1) (.k (.int 0))))),
  .ret (.lor (.cmp .gt (.var 2) (.k (.int 0))) (.land (.cmp .eq (.var 2) (.k (.int 0))) (.cmp .gt (.bin .add (.bin .mul (.sub (.var 0) (.k (.int 0))) (.sub (.var 1) (.k (.int 0)))) (.bin .mul (.sub (.var 0) (.k (.int 1))) (.sub (.var 1) (.k (.int 1))))) (.k (.int 0)))))]
noncomputable def f_is_on_side : Fn := mkFn [false, false] 3 k_is_on_side
theorem s_is_on_side : FnScope ["one", "other", "cross"] ["one", "other"] (C8.fnScope (topS 13)) := C8.fnScope_by (by decide +kernel)
theorem b_is_on_side : ∀ (kV doc pm : Value) (an : Option Addr) (cdv ct : Value) (us : List Value), us.length = (["one", "other"] : List Str).length → bindArgs (PySem.W.fnOf "is_on_side" "is_on_side" (C8.fnArgs (topS 13)) (C8.fnBody (topS 13)) (C8.fnScope (topS 13)) .none kV doc pm an cdv ct) ⟨us, []⟩ = pure ((["one", "other"] : List Str).zip us) := fun _ _ _ _ _ _ us h => match us, h with
  | [_, _], _ => rfl
theorem ok_is_on_side {P : Program} {w : World} {K : PySem.W.Frag} {mg : Str → Option Value} {base : Heap} (F : DefG K mg "is_on_side" (topS 13)) : CalG P w K mg base 1 "is_on_side" (topS 13) ["one", "other"] f_is_on_side :=
  have S := s_is_on_side
  F.cal S rfl fun f cdv A outer s H hr hG => (gb_cons (gs_set (i := 2) S.nd rfl (.inl rfl) (ge_b b_sub (ge_b b_mul (ge_sub (ge_var (pe_var (i := 0) rfl (.inl rfl))) (ge_k pe_int fun _ => .int _)) (ge_sub (ge_var (pe_var (i := 1) rfl (.inl rfl))) (ge_k pe_int fun _ => .int _))) (ge_b b_mul (ge_sub (ge_var (pe_var (i := 0) rfl (.inl rfl))) (ge_k pe_int fun _ => .int _)) (ge_sub (ge_var (pe_var (i := 1) rfl (.inl rfl))) (ge_k pe_int fun _ => .int _)))) (.inl rfl))
    (gb_cons (gs_ret (ge_or (ge_c (c_gt hr) (ge_var (pe_var (i := 2) rfl (.inl rfl))) (ge_k pe_int fun _ => .int _) (nomark _)) (ge_one (ge_and (ge_c (c_eq hr) (ge_var (pe_var (i := 2) rfl (.inl rfl))) (ge_k pe_int fun _ => .int _) (nomark _)) (ge_one (ge_c (c_gt hr) (ge_b b_add (ge_b b_mul (ge_sub (ge_var (pe_var (i := 0) rfl (.inl rfl))) (ge_k pe_int fun _ => .int _)) (ge_sub (ge_var (pe_var (i := 1) rfl (.inl rfl))) (ge_k pe_int fun _ => .int _))) (ge_b b_mul (ge_sub (ge_var (pe_var (i := 0) rfl (.inl rfl))) (ge_k pe_int fun _ => .int _)) (ge_sub (ge_var (pe_var (i := 1) rfl (.inl rfl))) (ge_k pe_int fun _ => .int _)))) (ge_k pe_int fun _ => .int _) (nomark _)))))) (by intro _ h; cases h))
    gb_nil))
/-! _law_feed -/
noncomputable def k__law_feed : List CS := [.set 2 (.bin .add (.bin .mul (.k (.int 977)) (.var 1)) (.bi .sum (.cons (.slc (.var 0) .nil (.cons (.k (.int 1)) .nil)) .nil))),
  .ifs (.val (.cmp .lt (.var 1) (.bi .len (.cons (.var 0) .nil)))) [.set 2 (.sub (.var 0) (.var 1))] [],
  .ret (.lst (.cons (.bi .max2 (.cons (.k (.int 0)) (.cons (.bin .sub (.var 2) (.bin .pow (.k (.int 10)) (.k (.int 18)))) .nil))) (.cons (.bin .mod (.bi .int (.cons (.bin .add (.bin .mul (.var 2) (.k (.int 19))) (.bin .mul (.k (.int 7)) (.var 1))) .nil)) (.bin .add (.bin .pow (.k (.int 10)) (.k (.int 39))) (.k (.int 23)))) (.cons (.k (.int 0)) .nil))))]
noncomputable def f__law_feed : Fn := mkFn [false, false] 3 k__law_feed
theorem s__law_feed : FnScope ["script", "k", "cell"] ["script", "k"] (C8.fnScope (topS 25)) := C8.fnScope_by (by decide +kernel)
theorem b__law_feed : ∀ (kV doc pm : Value) (an : Option Addr) (cdv ct : Value) (us : List Value), us.length = (["script", "k"] : List Str).length → bindArgs (PySem.W.fnOf "_law_feed" "_law_feed" (C8.fnArgs (topS 25)) (C8.fnBody (topS 25)) (C8.fnScope (topS 25)) .none kV doc pm an cdv ct) ⟨us, []⟩ = pure ((["script", "k"] : List Str).zip us) := fun _ _ _ _ _ _ us h => match us, h with
  | [_, _], _ => rfl
theorem ok__law_feed {P : Program} {w : World} {K : PySem.W.Frag} {mg : Str → Option Value} {base : Heap} (F : DefG K mg "_law_feed" (topS 25)) (z_int : mg "int" = none) (z_len : mg "len" = none) (z_max : mg "max" = none) (z_sum : mg "sum" = none) : CalG P w K mg base 1 "_law_feed" (topS 25) ["script", "k"] f__law_feed :=
  have S := s__law_feed
  F.cal S rfl fun f cdv A outer s H hr hG => (gb_cons (gs_set (i := 2) S.nd rfl (.inl rfl) (ge_b b_add (ge_b b_mul (ge_k pe_int fun _ => .int _) (ge_var (pe_var (i := 1) rfl (.inl rfl)))) (ge_biB bs_sum (cr_sum rfl) PyProof.Rows.boot_sum (by decide) (by rfl) z_sum (gv_cons (ge_slc (ge_var (pe_var (i := 0) rfl (.inl rfl))) go_none (go_some (ge_k pe_int fun _ => .int _))) gv_nil) (by decide))) (.inl rfl))
    (gb_cons (gs_if (gt_c (c_lt hr) (ge_var (pe_var (i := 1) rfl (.inl rfl))) (ge_biB bs_len call_len PySem.boot_len (by decide) (by rfl) z_len (gv_cons (ge_var (pe_var (i := 0) rfl (.inl rfl))) gv_nil) (by decide)) (nomark _)) (gb_cons (gs_set (i := 2) S.nd rfl (.inl rfl) (ge_sub (ge_var (pe_var (i := 0) rfl (.inl rfl))) (ge_var (pe_var (i := 1) rfl (.inl rfl)))) (.inl rfl))
    gb_nil) gb_nil)
    (gb_cons (gs_ret (ge_lst (gv_cons (ge_biB bs_max2 (call_max2 rfl) PyProof.Rows.boot_max (by decide) (by rfl) z_max (gv_cons (ge_k pe_int fun _ => .int _) (gv_cons (ge_b b_sub (ge_var (pe_var (i := 2) rfl (.inl rfl))) (ge_b b_pow (ge_k pe_int fun _ => .int _) (ge_k pe_int fun _ => .int _))) gv_nil)) (by decide)) (gv_cons (ge_b b_mod (ge_biT bs_int call_int1 PyProof.Rows.boot_int (by decide) (by rfl) z_int (gv_cons (ge_b b_add (ge_b b_mul (ge_var (pe_var (i := 2) rfl (.inl rfl))) (ge_k pe_int fun _ => .int _)) (ge_b b_mul (ge_k pe_int fun _ => .int _) (ge_var (pe_var (i := 1) rfl (.inl rfl))))) gv_nil) (by decide)) (ge_b b_add (ge_b b_pow (ge_k pe_int fun _ => .int _) (ge_k pe_int fun _ => .int _)) (ge_k pe_int fun _ => .int _))) (gv_cons (ge_k pe_int fun _ => .int _) gv_nil)))) (by intro _ h; cases h))
    gb_nil)))
/-! _law_draw -/
noncomputable def k__law_draw : List CS := [.ifs (.val (.cmp .gt (.sub (.var 0) (.k (.int 0))) (.k (.int 0)))) [.set 2 (.bin .fdiv (.sub (.var 0) (.k (.int 0))) (.var 1)),
  .set 3 (.bin .sub (.sub (.var 0) (.k (.int 0))) (.bin .mul (.var 2) (.var 1))),
  .put 0 (.k (.int 0)) (.var 2),
  .ret (.var 3)] [],
  .put 0 (.k (.int 2)) (.bin .add (.sub (.var 0) (.k (.int 2))) (.k (.int 1))),
  .set 4 (.bin .add (.sub (.var 0) (.k (.int 1))) (.bin .mul (.k (.int 6700417)) (.sub (.var 0) (.k (.int 2))))),
  .set 4 (.bin .mod (.bi .int (.cons (.bin .add (.bin .mul (.bin .mul (.var 4) (.var 4)) (.var 4)) (.bin .mul (.k (.int 15485863)) (.sub (.var 0) (.k (.int 2))))) .nil)) (.bin .add (.bin .pow (.k (.int 10)) (.k (.int 43))) (.k (.int 57)))),
  .set 4 (.bin .mod (.bi .int (.cons (.bin .add (.bin .mul (.var 4) (.var 4)) (.k (.int 32452843))) .nil)) (.bin .add (.bin .pow (.k (.int 10)) (.k (.int 38))) (.k (.int 133)))),
  .ret (.bin .mod (.bi .int (.cons (.bin .fdiv (.var 4) (.bin .pow (.k (.int 10)) (.k (.int 9)))) .nil)) (.var 1))]
noncomputable def f__law_draw : Fn := mkFn [true, false] 5 k__law_draw
theorem s__law_draw : FnScope ["feed", "many", "rest", "got", "stir"] ["feed", "many"] (C8.fnScope (topS 26)) := C8.fnScope_by (by decide +kernel)
theorem b__law_draw : ∀ (kV doc pm : Value) (an : Option Addr) (cdv ct : Value) (us : List Value), us.length = (["feed", "many"] : List Str).length → bindArgs (PySem.W.fnOf "_law_draw" "_law_draw" (C8.fnArgs (topS 26)) (C8.fnBody (topS 26)) (C8.fnScope (topS 26)) .none kV doc pm an cdv ct) ⟨us, []⟩ = pure ((["feed", "many"] : List Str).zip us) := fun _ _ _ _ _ _ us h => match us, h with
  | [_, _], _ => rfl
theorem ok__law_draw {P : Program} {w : World} {K : PySem.W.Frag} {mg : Str → Option Value} {base : Heap} (F : DefG K mg "_law_draw" (topS 26)) (z_int : mg "int" = none) : CalG P w K mg base 1 "_law_draw" (topS 26) ["feed", "many"] f__law_draw :=
  have S := s__law_draw
  F.cal S rfl fun f cdv A outer s H hr hG => (gb_cons (gs_if (gt_c (c_gt hr) (ge_sub (ge_var (pe_var (i := 0) rfl (.inl rfl))) (ge_k pe_int fun _ => .int _)) (ge_k pe_int fun _ => .int _) (nomark _)) (gb_cons (gs_set (i := 2) S.nd rfl (.inl rfl) (ge_b b_fdiv (ge_sub (ge_var (pe_var (i := 0) rfl (.inl rfl))) (ge_k pe_int fun _ => .int _)) (ge_var (pe_var (i := 1) rfl (.inl rfl)))) (.inl rfl))
    (gb_cons (gs_set (i := 3) S.nd rfl (.inl rfl) (ge_b b_sub (ge_sub (ge_var (pe_var (i := 0) rfl (.inl rfl))) (ge_k pe_int fun _ => .int _)) (ge_b b_mul (ge_var (pe_var (i := 2) rfl (.inl rfl))) (ge_var (pe_var (i := 1) rfl (.inl rfl))))) (.inl rfl))
    (gb_cons (gs_put (pe_var (i := 0) rfl (.inl rfl)) (ge_k pe_int fun _ => .int _) (ge_var (pe_var (i := 2) rfl (.inl rfl))))
    (gb_cons (gs_retV (pe_var (i := 3) rfl (.inl rfl)))
    gb_nil)))) gb_nil)
    (gb_cons (gs_put (pe_var (i := 0) rfl (.inl rfl)) (ge_k pe_int fun _ => .int _) (ge_b b_add (ge_sub (ge_var (pe_var (i := 0) rfl (.inl rfl))) (ge_k pe_int fun _ => .int _)) (ge_k pe_int fun _ => .int _)))
    (gb_cons (gs_set (i := 4) S.nd rfl (.inl rfl) (ge_b b_add (ge_sub (ge_var (pe_var (i := 0) rfl (.inl rfl))) (ge_k pe_int fun _ => .int _)) (ge_b b_mul (ge_k pe_int fun _ => .int _) (ge_sub (ge_var (pe_var (i := 0) rfl (.inl rfl))) (ge_k pe_int fun _ => .int _)))) (.inl rfl))
    (gb_cons (gs_set (i := 4) S.nd rfl (.inl rfl) (ge_b b_mod (ge_biT bs_int call_int1 PyProof.Rows.boot_int (by decide) (by rfl) z_int (gv_cons (ge_b b_add (ge_b b_mul (ge_b b_mul (ge_var (pe_var (i := 4) rfl (.inl rfl))) (ge_var (pe_var (i := 4) rfl (.inl rfl)))) (ge_var (pe_var (i := 4) rfl (.inl rfl)))) (ge_b b_mul (ge_k pe_int fun _ => .int _) (ge_sub (ge_var (pe_var (i := 0) rfl (.inl rfl))) (ge_k pe_int fun _ => .int _)))) gv_nil) (by decide)) (ge_b b_add (ge_b b_pow (ge_k pe_int fun _ => .int _) (ge_k pe_int fun _ => .int _)) (ge_k pe_int fun _ => .int _))) (.inl rfl))
    (gb_cons (gs_set (i := 4) S.nd rfl (.inl rfl) (ge_b b_mod (ge_biT bs_int call_int1 PyProof.Rows.boot_int (by decide) (by rfl) z_int (gv_cons (ge_b b_add (ge_b b_mul (ge_var (pe_var (i := 4) rfl (.inl rfl))) (ge_var (pe_var (i := 4) rfl (.inl rfl)))) (ge_k pe_int fun _ => .int _)) gv_nil) (by decide)) (ge_b b_add (ge_b b_pow (ge_k pe_int fun _ => .int _) (ge_k pe_int fun _ => .int _)) (ge_k pe_int fun _ => .int _))) (.inl rfl))
    (gb_cons (gs_ret (ge_b b_mod (ge_biT bs_int call_int1 PyProof.Rows.boot_int (by decide) (by rfl) z_int (gv_cons (ge_b b_fdiv (ge_var (pe_var (i := 4) rfl (.inl rfl))) (ge_b b_pow (ge_k pe_int fun _ => .int _) (ge_k pe_int fun _ => .int _))) gv_nil) (by decide)) (ge_var (pe_var (i := 1) rfl (.inl rfl)))) (by intro _ h; cases h))
    gb_nil))))))
/-! _law_point_sides -/
noncomputable def k__law_point_sides : List CS := [.set 2 (.lc (.tup (.cons (.bin .sub (.sub (.var 3) (.k (.int 0))) (.sub (.var 0) (.k (.int 0)))) (.cons (.bin .sub (.sub (.var 3) (.k (.int 1))) (.sub (.var 0) (.k (.int 1)))) .nil))) (.seq (.var 1)) (.one 3) .nil [3]),
  .ret (.lc (.bin .sub (.bin .mul (.sub (.var 3) (.k (.int 0))) (.sub (.var 4) (.k (.int 1)))) (.bin .mul (.sub (.var 3) (.k (.int 1))) (.sub (.var 4) (.k (.int 0))))) (.zip (.var 2) (.bin .add (.slc (.var 2) (.cons (.k (.int 1)) .nil) .nil) (.slc (.var 2) .nil (.cons (.k (.int 1)) .nil)))) (.tup [3, 4]) .nil [3, 4])]
noncomputable def f__law_point_sides : Fn := mkFn [false, false] 5 k__law_point_sides
theorem s__law_point_sides : FnScope ["point", "others", "rows", "one", "two"] ["point", "others"] (C8.fnScope (topS 29)) := C8.fnScope_by (by decide +kernel)
theorem b__law_point_sides : ∀ (kV doc pm : Value) (an : Option Addr) (cdv ct : Value) (us : List Value), us.length = (["point", "others"] : List Str).length → bindArgs (PySem.W.fnOf "_law_point_sides" "_law_point_sides" (C8.fnArgs (topS 29)) (C8.fnBody (topS 29)) (C8.fnScope (topS 29)) .none kV doc pm an cdv ct) ⟨us, []⟩ = pure ((["point", "others"] : List Str).zip us) := fun _ _ _ _ _ _ us h => match us, h with
  | [_, _], _ => rfl
theorem ok__law_point_sides {P : Program} {w : World} {K : PySem.W.Frag} {mg : Str → Option Value} {base : Heap} (F : DefG K mg "_law_point_sides" (topS 29)) (z_zip : mg "zip" = none) : CalG P w K mg base 1 "_law_point_sides" (topS 29) ["point", "others"] f__law_point_sides :=
  have S := s__law_point_sides
  F.cal S rfl fun f cdv A outer s H hr hG => (gb_cons (gs_setLc (own := [("one", 3)]) (i := 2) rfl S.nd rfl rfl (by rfl) (gi_seq (ge_var (pe_var (i := 1) rfl (.inl rfl)))) (blkOk_by (by kernel_rfl)) (fun _ _ _ _ _ => (gg_one (pg_name (i := 3) S.nd rfl (.inl rfl)))) (fun _ _ _ _ _ => gts_nil) (fun _ _ _ _ _ => (ge_tup (gv_cons (ge_b b_sub (ge_sub (ge_var (pe_var (i := 3) rfl (.inl rfl))) (ge_k pe_int fun _ => .int _)) (ge_sub (ge_var (pe_var (i := 0) rfl (.inr (.inl rfl)))) (ge_k pe_int fun _ => .int _))) (gv_cons (ge_b b_sub (ge_sub (ge_var (pe_var (i := 3) rfl (.inl rfl))) (ge_k pe_int fun _ => .int _)) (ge_sub (ge_var (pe_var (i := 0) rfl (.inr (.inl rfl)))) (ge_k pe_int fun _ => .int _))) gv_nil)))) (by rfl))
    (gb_cons (gs_ret (ge_lc (own := [("one", 3), ("two", 4)]) rfl S.nd (gi_zip (by rfl) z_zip (ge_var (pe_var (i := 2) rfl (.inl rfl))) (ge_b b_add (ge_slc (ge_var (pe_var (i := 2) rfl (.inl rfl))) (go_some (ge_k pe_int fun _ => .int _)) go_none) (ge_slc (ge_var (pe_var (i := 2) rfl (.inl rfl))) go_none (go_some (ge_k pe_int fun _ => .int _))))) (blkOk_by (by kernel_rfl)) (fun _ _ _ _ _ => (gg_tup rfl (gs_cons (pg_name (i := 3) S.nd rfl (.inl rfl)) (gs_cons (pg_name (i := 4) S.nd rfl (.inl rfl)) gs_nil)))) (fun _ _ _ _ _ => gts_nil) (fun _ _ _ _ _ => (ge_b b_sub (ge_b b_mul (ge_sub (ge_var (pe_var (i := 3) rfl (.inl rfl))) (ge_k pe_int fun _ => .int _)) (ge_sub (ge_var (pe_var (i := 4) rfl (.inl rfl))) (ge_k pe_int fun _ => .int _))) (ge_b b_mul (ge_sub (ge_var (pe_var (i := 3) rfl (.inl rfl))) (ge_k pe_int fun _ => .int _)) (ge_sub (ge_var (pe_var (i := 4) rfl (.inl rfl))) (ge_k pe_int fun _ => .int _))))) (by rfl)) (by intro _ h; cases h))
    gb_nil))
/-! is_within -/
noncomputable def k_is_within : List CS := [.ret (.land (.call f_is_integer "is_integer" (.cons (.var 0) .nil) []) (.chain .le .le (.var 1) (.var 0) (.var 2)))]
noncomputable def f_is_within : Fn := mkFn [false, false, false] 3 k_is_within
theorem s_is_within : FnScope ["thing", "least", "most"] ["thing", "least", "most"] (C8.fnScope (topS 6)) := C8.fnScope_by (by decide +kernel)
theorem b_is_within : ∀ (kV doc pm : Value) (an : Option Addr) (cdv ct : Value) (us : List Value), us.length = (["thing", "least", "most"] : List Str).length → bindArgs (PySem.W.fnOf "is_within" "is_within" (C8.fnArgs (topS 6)) (C8.fnBody (topS 6)) (C8.fnScope (topS 6)) .none kV doc pm an cdv ct) ⟨us, []⟩ = pure ((["thing", "least", "most"] : List Str).zip us) := fun _ _ _ _ _ _ us h => match us, h with
  | [_, _, _], _ => rfl
theorem ok_is_within {P : Program} {w : World} {K : PySem.W.Frag} {mg : Str → Option Value} {base : Heap} (F : DefG K mg "is_within" (topS 6)) (c_is_integer : CalG P w K mg base 1 "is_integer" (topS 5) ["thing"] f_is_integer) : CalG P w K mg base 2 "is_within" (topS 6) ["thing", "least", "most"] f_is_within :=
  have S := s_is_within
  F.cal S rfl fun f cdv A outer s H hr hG => (gb_cons (gs_ret (ge_and (ge_f c_is_integer hr (by decide) hG (by rfl) b_is_integer (ga_val (ge_var (pe_var (i := 0) rfl (.inl rfl))) ga_nil) (by decide)) (ge_one (ge_ch (c_le hr) (c_le hr) (ge_var (pe_var (i := 1) rfl (.inl rfl))) (ge_var (pe_var (i := 0) rfl (.inl rfl))) (ge_var (pe_var (i := 2) rfl (.inl rfl)))))) (by intro _ h; cases h))
    gb_nil)
/-! is_outer -/
noncomputable def k_is_outer : List CS := [.setT [3, 4] (.sub (.var 0) (.var 1)),
  .set 5 (.lc (.tup (.cons (.bin .sub (.sub (.sub (.var 0) (.var 6)) (.k (.int 0))) (.var 3)) (.cons (.bin .sub (.sub (.sub (.var 0) (.var 6)) (.k (.int 1))) (.var 4)) .nil))) (.seq (.var 2)) (.one 6) (.cons (.val (.cmp .ne (.var 6) (.var 1))) .nil) [6]),
  .ret (.lor (.cmp .eq (.var 5) (.lst .nil)) (.bi .any (.cons (.lc (.bi .all (.cons (.lc (.call f_is_on_side "is_on_side" (.cons (.var 7) (.cons (.var 6) .nil)) []) (.seq (.var 5)) (.one 6) .nil [6]) .nil)) (.seq (.var 5)) (.one 7) .nil [7]) .nil)))]
noncomputable def f_is_outer : Fn := mkFn [false, false, false] 8 k_is_outer
theorem s_is_outer : FnScope ["points", "index", "left", "x", "y", "ways", "other", "one"] ["points", "index", "left"] (C8.fnScope (topS 14)) := C8.fnScope_by (by decide +kernel)
theorem b_is_outer : ∀ (kV doc pm : Value) (an : Option Addr) (cdv ct : Value) (us : List Value), us.length = (["points", "index", "left"] : List Str).length → bindArgs (PySem.W.fnOf "is_outer" "is_outer" (C8.fnArgs (topS 14)) (C8.fnBody (topS 14)) (C8.fnScope (topS 14)) .none kV doc pm an cdv ct) ⟨us, []⟩ = pure ((["points", "index", "left"] : List Str).zip us) := fun _ _ _ _ _ _ us h => match us, h with
  | [_, _, _], _ => rfl
theorem ok_is_outer {P : Program} {w : World} {K : PySem.W.Frag} {mg : Str → Option Value} {base : Heap} (F : DefG K mg "is_outer" (topS 14)) (c_is_on_side : CalG P w K mg base 1 "is_on_side" (topS 13) ["one", "other"] f_is_on_side) (z_all : mg "all" = none) (z_any : mg "any" = none) : CalG P w K mg base 2 "is_outer" (topS 14) ["points", "index", "left"] f_is_outer :=
  have S := s_is_outer
  F.cal S rfl fun f cdv A outer s H hr hG => (gb_cons (gs_setT (ge_sub (ge_var (pe_var (i := 0) rfl (.inr (.inl rfl)))) (ge_var (pe_var (i := 1) rfl (.inr (.inl rfl))))) (gg_tup rfl (gs_cons (pg_name (i := 3) S.nd rfl (.inr rfl)) (gs_cons (pg_name (i := 4) S.nd rfl (.inr rfl)) gs_nil))))
    (gb_cons (gs_set (i := 5) S.nd rfl (.inr rfl) (ge_lc (own := [("other", 6)]) rfl S.nd (gi_seq (ge_var (pe_var (i := 2) rfl (.inl rfl)))) (blkOk_by (by kernel_rfl)) (fun _ _ _ _ _ => (gg_one (pg_name (i := 6) S.nd rfl (.inl rfl)))) (fun _ _ _ _ _ => (gts_one (gt_c (c_ne hr) (ge_var (pe_var (i := 6) rfl (.inl rfl))) (ge_var (pe_var (i := 1) rfl (.inr (.inl rfl)))) (nomark _)))) (fun _ _ _ _ _ => (ge_tup (gv_cons (ge_b b_sub (ge_sub (ge_sub (ge_var (pe_var (i := 0) rfl (.inr (.inl rfl)))) (ge_var (pe_var (i := 6) rfl (.inl rfl)))) (ge_k pe_int fun _ => .int _)) (ge_var (pe_var (i := 3) rfl (.inr (.inl rfl))))) (gv_cons (ge_b b_sub (ge_sub (ge_sub (ge_var (pe_var (i := 0) rfl (.inr (.inl rfl)))) (ge_var (pe_var (i := 6) rfl (.inl rfl)))) (ge_k pe_int fun _ => .int _)) (ge_var (pe_var (i := 4) rfl (.inr (.inl rfl))))) gv_nil)))) (by rfl)) (.inl rfl))
    (gb_cons (gs_ret (ge_or (ge_c (c_eq hr) (ge_var (pe_var (i := 5) rfl (.inr (.inl rfl)))) (ge_lst gv_nil) (nomark _)) (ge_one (ge_biB bs_any (cr_any rfl) PyProof.Rows.boot_any (by decide) (by rfl) z_any (gv_cons (ge_lc (own := [("one", 7)]) rfl S.nd (gi_seq (ge_var (pe_var (i := 5) rfl (.inr (.inl rfl))))) (blkOk_by (by kernel_rfl)) (fun _ _ _ _ _ => (gg_one (pg_name (i := 7) S.nd rfl (.inr rfl)))) (fun _ _ _ _ _ => gts_nil) (fun _ _ _ _ _ => (ge_biB bs_all (cr_all rfl) PyProof.Rows.boot_all (by decide) (by rfl) z_all (gv_cons (ge_lc (own := [("other", 6)]) rfl S.nd (gi_seq (ge_var (pe_var (i := 5) rfl (.inr (.inl rfl))))) (blkOk_by (by kernel_rfl)) (fun _ _ _ _ _ => (gg_one (pg_name (i := 6) S.nd rfl (.inl rfl)))) (fun _ _ _ _ _ => gts_nil) (fun _ _ _ _ _ => (ge_f c_is_on_side hr (by decide) hG (by rfl) b_is_on_side (ga_val (ge_var (pe_var (i := 7) rfl (.inr (.inl rfl)))) (ga_val (ge_var (pe_var (i := 6) rfl (.inl rfl))) ga_nil)) (by decide))) (by rfl)) gv_nil) (by decide))) (by rfl)) gv_nil) (by decide)))) (by intro _ h; cases h))
    gb_nil)))
/-! _law_one -/
noncomputable def k__law_one : List CS := [.ret (.sub (.var 1) (.call f__law_draw "_law_draw" (.cons (.var 0) (.cons (.bi .len (.cons (.var 1) .nil)) .nil)) []))]
noncomputable def f__law_one : Fn := mkFn [true, false] 2 k__law_one
theorem s__law_one : FnScope ["feed", "things"] ["feed", "things"] (C8.fnScope (topS 27)) := C8.fnScope_by (by decide +kernel)
theorem b__law_one : ∀ (kV doc pm : Value) (an : Option Addr) (cdv ct : Value) (us : List Value), us.length = (["feed", "things"] : List Str).length → bindArgs (PySem.W.fnOf "_law_one" "_law_one" (C8.fnArgs (topS 27)) (C8.fnBody (topS 27)) (C8.fnScope (topS 27)) .none kV doc pm an cdv ct) ⟨us, []⟩ = pure ((["feed", "things"] : List Str).zip us) := fun _ _ _ _ _ _ us h => match us, h with
  | [_, _], _ => rfl
theorem ok__law_one {P : Program} {w : World} {K : PySem.W.Frag} {mg : Str → Option Value} {base : Heap} (F : DefG K mg "_law_one" (topS 27)) (c__law_draw : CalG P w K mg base 1 "_law_draw" (topS 26) ["feed", "many"] f__law_draw) (z_len : mg "len" = none) : CalG P w K mg base 2 "_law_one" (topS 27) ["feed", "things"] f__law_one :=
  have S := s__law_one
  F.cal S rfl fun f cdv A outer s H hr hG => (gb_cons (gs_ret (ge_sub (ge_var (pe_var (i := 1) rfl (.inl rfl))) (ge_f c__law_draw hr (by decide) hG (by rfl) b__law_draw (ga_io (pe_var (i := 0) rfl (.inl rfl)) (ga_val (ge_biB bs_len call_len PySem.boot_len (by decide) (by rfl) z_len (gv_cons (ge_var (pe_var (i := 1) rfl (.inl rfl))) gv_nil) (by decide)) ga_nil)) (by decide))) (by intro _ h; cases h))
    gb_nil)
/-! _law_some -/
noncomputable def k__law_some : List CS := [.ret (.bi .tuple (.cons (.lc (.var 3) (.seq (.var 1)) (.one 3) (.cons (.val (.cmp .eq (.call f__law_draw "_law_draw" (.cons (.var 0) (.cons (.var 2) .nil)) []) (.k (.int 0)))) .nil) [3]) .nil))]
noncomputable def f__law_some : Fn := mkFn [true, false, false] 4 k__law_some
theorem s__law_some : FnScope ["feed", "things", "share", "one"] ["feed", "things", "share"] (C8.fnScope (topS 28)) := C8.fnScope_by (by decide +kernel)
theorem b__law_some : ∀ (kV doc pm : Value) (an : Option Addr) (cdv ct : Value) (us : List Value), us.length = (["feed", "things", "share"] : List Str).length → bindArgs (PySem.W.fnOf "_law_some" "_law_some" (C8.fnArgs (topS 28)) (C8.fnBody (topS 28)) (C8.fnScope (topS 28)) .none kV doc pm an cdv ct) ⟨us, []⟩ = pure ((["feed", "things", "share"] : List Str).zip us) := fun _ _ _ _ _ _ us h => match us, h with
  | [_, _, _], _ => rfl
theorem ok__law_some {P : Program} {w : World} {K : PySem.W.Frag} {mg : Str → Option Value} {base : Heap} (F : DefG K mg "_law_some" (topS 28)) (c__law_draw : CalG P w K mg base 1 "_law_draw" (topS 26) ["feed", "many"] f__law_draw) (z_tuple : mg "tuple" = none) : CalG P w K mg base 2 "_law_some" (topS 28) ["feed", "things", "share"] f__law_some :=
  have S := s__law_some
  F.cal S rfl fun f cdv A outer s H hr hG => (gb_cons (gs_ret (ge_biT bs_tuple call_tuple_of PyProof.Rows.boot_tuple (by decide) (by rfl) z_tuple (gv_cons (ge_lc (own := [("one", 3)]) rfl S.nd (gi_seq (ge_var (pe_var (i := 1) rfl (.inl rfl)))) (blkOk_by (by kernel_rfl)) (fun _ _ _ _ _ => (gg_one (pg_name (i := 3) S.nd rfl (.inl rfl)))) (fun _ _ _ _ _ => (gts_one (gt_c (c_eq hr) (ge_f c__law_draw hr (by decide) hG (by rfl) b__law_draw (ga_io (pe_var (i := 0) rfl (.inr (.inl rfl))) (ga_val (ge_var (pe_var (i := 2) rfl (.inr (.inl rfl)))) ga_nil)) (by decide)) (ge_k pe_int fun _ => .int _) (nomark _)))) (fun _ _ _ _ _ => (ge_var (pe_var (i := 3) rfl (.inl rfl)))) (by rfl)) gv_nil) (by decide)) (by intro _ h; cases h))
    gb_nil)
/-! _law_is_outer -/
noncomputable def k__law_is_outer : List CS := [.for_ (.tup [2, 3]) (.enum (.var 1)) [.for_ (.one 4) (.rng (.cons (.var 2) .nil)) [.set 5 (.sub (.var 1) (.var 4)),
  .set 6 (.bin .add (.bin .mul (.bin .sub (.sub (.var 3) (.k (.int 0))) (.sub (.var 0) (.k (.int 0)))) (.bin .sub (.sub (.var 5) (.k (.int 0))) (.sub (.var 0) (.k (.int 0))))) (.bin .mul (.bin .sub (.sub (.var 3) (.k (.int 1))) (.sub (.var 0) (.k (.int 1)))) (.bin .sub (.sub (.var 5) (.k (.int 1))) (.sub (.var 0) (.k (.int 1)))))),
  .ifs (.and (.val (.cmp .eq (.sub (.call f__law_point_sides "_law_point_sides" (.cons (.var 0) (.cons (.lst (.cons (.var 3) (.cons (.var 5) .nil))) .nil)) []) (.k (.int 0))) (.k (.int 0)))) (.val (.cmp .lt (.var 6) (.k (.int 0))))) [.ret (.k (.bool false))] [],
  .for_ (.one 7) (.seq (.slc (.var 1) .nil (.cons (.var 4) .nil))) [.set 8 (.call f__law_point_sides "_law_point_sides" (.cons (.var 0) (.cons (.lst (.cons (.var 3) (.cons (.var 5) (.cons (.var 7) .nil)))) .nil)) []),
  .ifs (.and (.or (.val (.cmp .ge (.bi .min (.cons (.var 8) .nil)) (.k (.int 0)))) (.val (.cmp .le (.bi .max (.cons (.var 8) .nil)) (.k (.int 0))))) (.val (.cmp .ne (.var 8) (.lst (.cons (.k (.int 0)) (.cons (.k (.int 0)) (.cons (.k (.int 0)) .nil))))))) [.ret (.k (.bool false))] []]]],
  .ret (.k (.bool true))]
noncomputable def f__law_is_outer : Fn := mkFn [false, false] 9 k__law_is_outer
theorem s__law_is_outer : FnScope ["point", "others", "at", "one", "spot", "two", "along", "three", "sides"] ["point", "others"] (C8.fnScope (topS 30)) := C8.fnScope_by (by decide +kernel)
theorem b__law_is_outer : ∀ (kV doc pm : Value) (an : Option Addr) (cdv ct : Value) (us : List Value), us.length = (["point", "others"] : List Str).length → bindArgs (PySem.W.fnOf "_law_is_outer" "_law_is_outer" (C8.fnArgs (topS 30)) (C8.fnBody (topS 30)) (C8.fnScope (topS 30)) .none kV doc pm an cdv ct) ⟨us, []⟩ = pure ((["point", "others"] : List Str).zip us) := fun _ _ _ _ _ _ us h => match us, h with
  | [_, _], _ => rfl
theorem ok__law_is_outer {P : Program} {w : World} {K : PySem.W.Frag} {mg : Str → Option Value} {base : Heap} (F : DefG K mg "_law_is_outer" (topS 30)) (c__law_point_sides : CalG P w K mg base 1 "_law_point_sides" (topS 29) ["point", "others"] f__law_point_sides) (z_enumerate : mg "enumerate" = none) (z_max : mg "max" = none) (z_min : mg "min" = none) (z_range : mg "range" = none) : CalG P w K mg base 2 "_law_is_outer" (topS 30) ["point", "others"] f__law_is_outer :=
  have S := s__law_is_outer
  F.cal S rfl fun f cdv A outer s H hr hG => (gb_cons (gs_for PassesOwn.never rfl (gi_enum (by rfl) z_enumerate (ge_var (pe_var (i := 1) rfl (.inl rfl)))) (gg_tup rfl (gs_cons (pg_name (i := 2) S.nd rfl (.inl rfl)) (gs_cons (pg_name (i := 3) S.nd rfl (.inl rfl)) gs_nil))) (gb_cons (gs_for PassesOwn.never rfl (gi_rng1 (by rfl) z_range (ge_var (pe_var (i := 2) rfl (.inl rfl)))) (gg_one (pg_name (i := 4) S.nd rfl (.inl rfl))) (gb_cons (gs_set (i := 5) S.nd rfl (.inl rfl) (ge_sub (ge_var (pe_var (i := 1) rfl (.inl rfl))) (ge_var (pe_var (i := 4) rfl (.inl rfl)))) (.inl rfl))
    (gb_cons (gs_set (i := 6) S.nd rfl (.inl rfl) (ge_b b_add (ge_b b_mul (ge_b b_sub (ge_sub (ge_var (pe_var (i := 3) rfl (.inl rfl))) (ge_k pe_int fun _ => .int _)) (ge_sub (ge_var (pe_var (i := 0) rfl (.inl rfl))) (ge_k pe_int fun _ => .int _))) (ge_b b_sub (ge_sub (ge_var (pe_var (i := 5) rfl (.inl rfl))) (ge_k pe_int fun _ => .int _)) (ge_sub (ge_var (pe_var (i := 0) rfl (.inl rfl))) (ge_k pe_int fun _ => .int _)))) (ge_b b_mul (ge_b b_sub (ge_sub (ge_var (pe_var (i := 3) rfl (.inl rfl))) (ge_k pe_int fun _ => .int _)) (ge_sub (ge_var (pe_var (i := 0) rfl (.inl rfl))) (ge_k pe_int fun _ => .int _))) (ge_b b_sub (ge_sub (ge_var (pe_var (i := 5) rfl (.inl rfl))) (ge_k pe_int fun _ => .int _)) (ge_sub (ge_var (pe_var (i := 0) rfl (.inl rfl))) (ge_k pe_int fun _ => .int _))))) (.inl rfl))
    (gb_cons (gs_if (GW.gt (gw_and (gt_c (c_eq hr) (ge_sub (ge_f c__law_point_sides hr (by decide) hG (by rfl) b__law_point_sides (ga_val (ge_var (pe_var (i := 0) rfl (.inl rfl))) (ga_val (ge_lst (gv_cons (ge_var (pe_var (i := 3) rfl (.inl rfl))) (gv_cons (ge_var (pe_var (i := 5) rfl (.inl rfl))) gv_nil))) ga_nil)) (by decide)) (ge_k pe_int fun _ => .int _)) (ge_k pe_int fun _ => .int _) (nomark _)) (gw_and1 (gt_c (c_lt hr) (ge_var (pe_var (i := 6) rfl (.inl rfl))) (ge_k pe_int fun _ => .int _) (nomark _))))) (gb_cons (gs_ret (ge_k pe_bl fun _ => .bl _) (by intro _ h; cases h))
    gb_nil) gb_nil)
    (gb_cons (gs_for PassesOwn.never rfl (gi_seq (ge_slc (ge_var (pe_var (i := 1) rfl (.inl rfl))) go_none (go_some (ge_var (pe_var (i := 4) rfl (.inl rfl)))))) (gg_one (pg_name (i := 7) S.nd rfl (.inl rfl))) (gb_cons (gs_set (i := 8) S.nd rfl (.inl rfl) (ge_f c__law_point_sides hr (by decide) hG (by rfl) b__law_point_sides (ga_val (ge_var (pe_var (i := 0) rfl (.inl rfl))) (ga_val (ge_lst (gv_cons (ge_var (pe_var (i := 3) rfl (.inl rfl))) (gv_cons (ge_var (pe_var (i := 5) rfl (.inl rfl))) (gv_cons (ge_var (pe_var (i := 7) rfl (.inl rfl))) gv_nil)))) ga_nil)) (by decide)) (.inl rfl))
    (gb_cons (gs_if (GW.gt (gw_and (GW.gt (gw_or (gt_c (c_ge hr) (ge_biB bs_min (cr_min rfl) PyProof.Rows.boot_min (by decide) (by rfl) z_min (gv_cons (ge_var (pe_var (i := 8) rfl (.inl rfl))) gv_nil) (by decide)) (ge_k pe_int fun _ => .int _) (nomark _)) (gw_or1 (gt_c (c_le hr) (ge_biB bs_max (cr_max rfl) PyProof.Rows.boot_max (by decide) (by rfl) z_max (gv_cons (ge_var (pe_var (i := 8) rfl (.inl rfl))) gv_nil) (by decide)) (ge_k pe_int fun _ => .int _) (nomark _))))) (gw_and1 (gt_c (c_ne hr) (ge_var (pe_var (i := 8) rfl (.inl rfl))) (ge_lst (gv_cons (ge_k pe_int fun _ => .int _) (gv_cons (ge_k pe_int fun _ => .int _) (gv_cons (ge_k pe_int fun _ => .int _) gv_nil)))) (nomark _))))) (gb_cons (gs_ret (ge_k pe_bl fun _ => .bl _) (by intro _ h; cases h))
    gb_nil) gb_nil)
    gb_nil)))
    gb_nil)))))
    gb_nil))
    (gb_cons (gs_ret (ge_k pe_bl fun _ => .bl _) (by intro _ h; cases h))
    gb_nil))
/-! _law_moved -/
noncomputable def k__law_moved : List CS := [.par [2, 3] (.cons (.call f__law_draw "_law_draw" (.cons (.var 0) (.cons (.k (.int 4)) .nil)) []) (.cons (.bin .sub (.call f__law_draw "_law_draw" (.cons (.var 0) (.cons (.k (.int 3)) .nil)) []) (.k (.int 1))) .nil)),
  .set 4 (.lc (.sub (.lst (.cons (.tup (.cons (.bin .sub (.k (.int 0)) (.var 6)) (.cons (.var 5) .nil))) (.cons (.tup (.cons (.bin .sub (.k (.int 0)) (.var 5)) (.cons (.var 6) .nil))) (.cons (.tup (.cons (.var 6) (.cons (.var 5) .nil))) (.cons (.tup (.cons (.bin .add (.var 5) (.bin .mul (.var 3) (.var 6))) (.cons (.var 6) .nil))) .nil))))) (.var 2)) (.seq (.var 1)) (.tup [5, 6]) .nil [5, 6]),
  .ret (.ite (.val (.cmp .lt (.bi .max (.cons (.lc (.bi .abs (.cons (.var 5) .nil)) (.seq (.var 4)) (.tup [5, 6]) .nil [5, 6]) .nil)) (.k (.int 1001)))) (.bi .tuple (.cons (.var 4) .nil)) (.var 1))]
noncomputable def f__law_moved : Fn := mkFn [true, false] 7 k__law_moved
theorem s__law_moved : FnScope ["feed", "points", "way", "by", "got", "x", "y"] ["feed", "points"] (C8.fnScope (topS 33)) := C8.fnScope_by (by decide +kernel)
theorem b__law_moved : ∀ (kV doc pm : Value) (an : Option Addr) (cdv ct : Value) (us : List Value), us.length = (["feed", "points"] : List Str).length → bindArgs (PySem.W.fnOf "_law_moved" "_law_moved" (C8.fnArgs (topS 33)) (C8.fnBody (topS 33)) (C8.fnScope (topS 33)) .none kV doc pm an cdv ct) ⟨us, []⟩ = pure ((["feed", "points"] : List Str).zip us) := fun _ _ _ _ _ _ us h => match us, h with
  | [_, _], _ => rfl
theorem ok__law_moved {P : Program} {w : World} {K : PySem.W.Frag} {mg : Str → Option Value} {base : Heap} (F : DefG K mg "_law_moved" (topS 33)) (c__law_draw : CalG P w K mg base 1 "_law_draw" (topS 26) ["feed", "many"] f__law_draw) (z_abs : mg "abs" = none) (z_max : mg "max" = none) (z_tuple : mg "tuple" = none) : CalG P w K mg base 2 "_law_moved" (topS 33) ["feed", "points"] f__law_moved :=
  have S := s__law_moved
  F.cal S rfl fun f cdv A outer s H hr hG => (gb_cons (gs_parT rfl (gv_cons (ge_f c__law_draw hr (by decide) hG (by rfl) b__law_draw (ga_io (pe_var (i := 0) rfl (.inl rfl)) (ga_val (ge_k pe_int fun _ => .int _) ga_nil)) (by decide)) (gv_cons (ge_b b_sub (ge_f c__law_draw hr (by decide) hG (by rfl) b__law_draw (ga_io (pe_var (i := 0) rfl (.inl rfl)) (ga_val (ge_k pe_int fun _ => .int _) ga_nil)) (by decide)) (ge_k pe_int fun _ => .int _)) gv_nil)) (gs_cons (pg_name (i := 2) S.nd rfl (.inr rfl)) (gs_cons (pg_name (i := 3) S.nd rfl (.inr rfl)) gs_nil)))
    (gb_cons (gs_setLc (own := [("x", 5), ("y", 6)]) (i := 4) rfl S.nd rfl rfl (by rfl) (gi_seq (ge_var (pe_var (i := 1) rfl (.inl rfl)))) (blkOk_by (by kernel_rfl)) (fun _ _ _ _ _ => (gg_tup rfl (gs_cons (pg_name (i := 5) S.nd rfl (.inl rfl)) (gs_cons (pg_name (i := 6) S.nd rfl (.inl rfl)) gs_nil)))) (fun _ _ _ _ _ => gts_nil) (fun _ _ _ _ _ => (ge_sub (ge_lst (gv_cons (ge_tup (gv_cons (ge_b b_sub (ge_k pe_int fun _ => .int _) (ge_var (pe_var (i := 6) rfl (.inl rfl)))) (gv_cons (ge_var (pe_var (i := 5) rfl (.inl rfl))) gv_nil))) (gv_cons (ge_tup (gv_cons (ge_b b_sub (ge_k pe_int fun _ => .int _) (ge_var (pe_var (i := 5) rfl (.inl rfl)))) (gv_cons (ge_var (pe_var (i := 6) rfl (.inl rfl))) gv_nil))) (gv_cons (ge_tup (gv_cons (ge_var (pe_var (i := 6) rfl (.inl rfl))) (gv_cons (ge_var (pe_var (i := 5) rfl (.inl rfl))) gv_nil))) (gv_cons (ge_tup (gv_cons (ge_b b_add (ge_var (pe_var (i := 5) rfl (.inl rfl))) (ge_b b_mul (ge_var (pe_var (i := 3) rfl (.inr (.inl rfl)))) (ge_var (pe_var (i := 6) rfl (.inl rfl))))) (gv_cons (ge_var (pe_var (i := 6) rfl (.inl rfl))) gv_nil))) gv_nil))))) (ge_var (pe_var (i := 2) rfl (.inr (.inl rfl)))))) (by rfl))
    (gb_cons (gs_ret (ge_ite (gt_c (c_lt hr) (ge_biB bs_max (cr_max rfl) PyProof.Rows.boot_max (by decide) (by rfl) z_max (gv_cons (ge_lc (own := [("x", 5), ("y", 6)]) rfl S.nd (gi_seq (ge_var (pe_var (i := 4) rfl (.inl rfl)))) (blkOk_by (by kernel_rfl)) (fun _ _ _ _ _ => (gg_tup rfl (gs_cons (pg_name (i := 5) S.nd rfl (.inl rfl)) (gs_cons (pg_name (i := 6) S.nd rfl (.inl rfl)) gs_nil)))) (fun _ _ _ _ _ => gts_nil) (fun _ _ _ _ _ => (ge_biB bs_abs call_abs PyProof.Rows.boot_abs (by decide) (by rfl) z_abs (gv_cons (ge_var (pe_var (i := 5) rfl (.inl rfl))) gv_nil) (by decide))) (by rfl)) gv_nil) (by decide)) (ge_k pe_int fun _ => .int _) (nomark _)) (ge_biT bs_tuple call_tuple_of PyProof.Rows.boot_tuple (by decide) (by rfl) z_tuple (gv_cons (ge_var (pe_var (i := 4) rfl (.inl rfl))) gv_nil) (by decide)) (ge_var (pe_var (i := 1) rfl (.inl rfl)))) (by intro _ h; cases h))
    gb_nil)))
/-! is_deed -/
noncomputable def k_is_deed : List CS := [.ret (.call f_is_within "is_within" (.cons (.var 0) (.cons (.k (.int 0)) (.cons (.bin .sub (.var 1) (.k (.int 1))) .nil))) [])]
noncomputable def f_is_deed : Fn := mkFn [false, false] 2 k_is_deed
theorem s_is_deed : FnScope ["thing", "many"] ["thing", "many"] (C8.fnScope (topS 10)) := C8.fnScope_by (by decide +kernel)
theorem b_is_deed : ∀ (kV doc pm : Value) (an : Option Addr) (cdv ct : Value) (us : List Value), us.length = (["thing", "many"] : List Str).length → bindArgs (PySem.W.fnOf "is_deed" "is_deed" (C8.fnArgs (topS 10)) (C8.fnBody (topS 10)) (C8.fnScope (topS 10)) .none kV doc pm an cdv ct) ⟨us, []⟩ = pure ((["thing", "many"] : List Str).zip us) := fun _ _ _ _ _ _ us h => match us, h with
  | [_, _], _ => rfl
theorem ok_is_deed {P : Program} {w : World} {K : PySem.W.Frag} {mg : Str → Option Value} {base : Heap} (F : DefG K mg "is_deed" (topS 10)) (c_is_within : CalG P w K mg base 2 "is_within" (topS 6) ["thing", "least", "most"] f_is_within) : CalG P w K mg base 3 "is_deed" (topS 10) ["thing", "many"] f_is_deed :=
  have S := s_is_deed
  F.cal S rfl fun f cdv A outer s H hr hG => (gb_cons (gs_ret (ge_f c_is_within hr (by decide) hG (by rfl) b_is_within (ga_val (ge_var (pe_var (i := 0) rfl (.inl rfl))) (ga_val (ge_k pe_int fun _ => .int _) (ga_val (ge_b b_sub (ge_var (pe_var (i := 1) rfl (.inl rfl))) (ge_k pe_int fun _ => .int _)) ga_nil))) (by decide)) (by intro _ h; cases h))
    gb_nil)
/-! outer_of -/
noncomputable def k_outer_of : List CS := [.ret (.lc (.var 2) (.seq (.var 1)) (.one 2) (.cons (.val (.call f_is_outer "is_outer" (.cons (.var 0) (.cons (.var 2) (.cons (.var 1) .nil))) [])) .nil) [2])]
noncomputable def f_outer_of : Fn := mkFn [false, false] 3 k_outer_of
theorem s_outer_of : FnScope ["points", "left", "index"] ["points", "left"] (C8.fnScope (topS 15)) := C8.fnScope_by (by decide +kernel)
theorem b_outer_of : ∀ (kV doc pm : Value) (an : Option Addr) (cdv ct : Value) (us : List Value), us.length = (["points", "left"] : List Str).length → bindArgs (PySem.W.fnOf "outer_of" "outer_of" (C8.fnArgs (topS 15)) (C8.fnBody (topS 15)) (C8.fnScope (topS 15)) .none kV doc pm an cdv ct) ⟨us, []⟩ = pure ((["points", "left"] : List Str).zip us) := fun _ _ _ _ _ _ us h => match us, h with
  | [_, _], _ => rfl
theorem ok_outer_of {P : Program} {w : World} {K : PySem.W.Frag} {mg : Str → Option Value} {base : Heap} (F : DefG K mg "outer_of" (topS 15)) (c_is_outer : CalG P w K mg base 2 "is_outer" (topS 14) ["points", "index", "left"] f_is_outer) : CalG P w K mg base 3 "outer_of" (topS 15) ["points", "left"] f_outer_of :=
  have S := s_outer_of
  F.cal S rfl fun f cdv A outer s H hr hG => (gb_cons (gs_ret (ge_lc (own := [("index", 2)]) rfl S.nd (gi_seq (ge_var (pe_var (i := 1) rfl (.inr (.inl rfl))))) (blkOk_by (by kernel_rfl)) (fun _ _ _ _ _ => (gg_one (pg_name (i := 2) S.nd rfl (.inl rfl)))) (fun _ _ _ _ _ => (gts_one (gt_val (ge_f c_is_outer hr (by decide) hG (by rfl) b_is_outer (ga_val (ge_var (pe_var (i := 0) rfl (.inr (.inl rfl)))) (ga_val (ge_var (pe_var (i := 2) rfl (.inl rfl))) (ga_val (ge_var (pe_var (i := 1) rfl (.inr (.inl rfl)))) ga_nil))) (by decide))))) (fun _ _ _ _ _ => (ge_var (pe_var (i := 2) rfl (.inl rfl)))) (by rfl)) (by intro _ h; cases h))
    gb_nil)
/-! is_point -/
noncomputable def k_is_point : List CS := [.ret (.land (.call f_is_row "is_row" (.cons (.var 0) (.cons (.k (.int 2)) (.cons (.k (.int 2)) .nil))) []) (.bi .all (.cons (.lc (.call f_is_within "is_within" (.cons (.var 1) (.cons (.un .neg (.k (.int 1000))) (.cons (.k (.int 1000)) .nil))) []) (.seq (.var 0)) (.one 1) .nil [1]) .nil)))]
noncomputable def f_is_point : Fn := mkFn [false] 2 k_is_point
theorem s_is_point : FnScope ["thing", "side"] ["thing"] (C8.fnScope (topS 19)) := C8.fnScope_by (by decide +kernel)
theorem b_is_point : ∀ (kV doc pm : Value) (an : Option Addr) (cdv ct : Value) (us : List Value), us.length = (["thing"] : List Str).length → bindArgs (PySem.W.fnOf "is_point" "is_point" (C8.fnArgs (topS 19)) (C8.fnBody (topS 19)) (C8.fnScope (topS 19)) .none kV doc pm an cdv ct) ⟨us, []⟩ = pure ((["thing"] : List Str).zip us) := fun _ _ _ _ _ _ us h => match us, h with
  | [_], _ => rfl
theorem ok_is_point {P : Program} {w : World} {K : PySem.W.Frag} {mg : Str → Option Value} {base : Heap} (F : DefG K mg "is_point" (topS 19)) (c_is_row : CalG P w K mg base 1 "is_row" (topS 7) ["thing", "least", "most"] f_is_row) (c_is_within : CalG P w K mg base 2 "is_within" (topS 6) ["thing", "least", "most"] f_is_within) (z_all : mg "all" = none) (g_FAR : ∃ t, mg "FAR" = some (.int 1000 t)) : CalG P w K mg base 3 "is_point" (topS 19) ["thing"] f_is_point :=
  have S := s_is_point
  F.cal S rfl fun f cdv A outer s H hr hG => (gb_cons (gs_ret (ge_and (ge_f c_is_row hr (by decide) hG (by rfl) b_is_row (ga_val (ge_var (pe_var (i := 0) rfl (.inl rfl))) (ga_val (ge_k pe_int fun _ => .int _) (ga_val (ge_k pe_int fun _ => .int _) ga_nil))) (by decide)) (ge_one (ge_biB bs_all (cr_all rfl) PyProof.Rows.boot_all (by decide) (by rfl) z_all (gv_cons (ge_lc (own := [("side", 1)]) rfl S.nd (gi_seq (ge_var (pe_var (i := 0) rfl (.inl rfl)))) (blkOk_by (by kernel_rfl)) (fun _ _ _ _ _ => (gg_one (pg_name (i := 1) S.nd rfl (.inl rfl)))) (fun _ _ _ _ _ => gts_nil) (fun _ _ _ _ _ => (ge_f c_is_within hr (by decide) hG (by rfl) b_is_within (ga_val (ge_var (pe_var (i := 1) rfl (.inl rfl))) (ga_val (ge_neg (ge_k (pe_glob (v := .int 1000) (by rfl) g_FAR.choose_spec ⟨_, rfl⟩) fun _ => .int _)) (ga_val (ge_k (pe_glob (v := .int 1000) (by rfl) g_FAR.choose_spec ⟨_, rfl⟩) fun _ => .int _) ga_nil))) (by decide))) (by rfl)) gv_nil) (by decide)))) (by intro _ h; cases h))
    gb_nil)
/-! _law_outer -/
noncomputable def k__law_outer : List CS := [.ret (.lc (.var 2) (.seq (.var 1)) (.one 2) (.cons (.val (.call f__law_is_outer "_law_is_outer" (.cons (.sub (.var 0) (.var 2)) (.cons (.lc (.sub (.var 0) (.var 3)) (.seq (.var 1)) (.one 3) (.cons (.val (.cmp .ne (.var 3) (.var 2))) .nil) [3]) .nil)) [])) .nil) [2])]
noncomputable def f__law_outer : Fn := mkFn [false, false] 4 k__law_outer
theorem s__law_outer : FnScope ["points", "left", "at", "other"] ["points", "left"] (C8.fnScope (topS 31)) := C8.fnScope_by (by decide +kernel)
theorem b__law_outer : ∀ (kV doc pm : Value) (an : Option Addr) (cdv ct : Value) (us : List Value), us.length = (["points", "left"] : List Str).length → bindArgs (PySem.W.fnOf "_law_outer" "_law_outer" (C8.fnArgs (topS 31)) (C8.fnBody (topS 31)) (C8.fnScope (topS 31)) .none kV doc pm an cdv ct) ⟨us, []⟩ = pure ((["points", "left"] : List Str).zip us) := fun _ _ _ _ _ _ us h => match us, h with
  | [_, _], _ => rfl
theorem ok__law_outer {P : Program} {w : World} {K : PySem.W.Frag} {mg : Str → Option Value} {base : Heap} (F : DefG K mg "_law_outer" (topS 31)) (c__law_is_outer : CalG P w K mg base 2 "_law_is_outer" (topS 30) ["point", "others"] f__law_is_outer) : CalG P w K mg base 3 "_law_outer" (topS 31) ["points", "left"] f__law_outer :=
  have S := s__law_outer
  F.cal S rfl fun f cdv A outer s H hr hG => (gb_cons (gs_ret (ge_lc (own := [("at", 2)]) rfl S.nd (gi_seq (ge_var (pe_var (i := 1) rfl (.inr (.inl rfl))))) (blkOk_by (by kernel_rfl)) (fun _ _ _ _ _ => (gg_one (pg_name (i := 2) S.nd rfl (.inr rfl)))) (fun _ _ _ _ _ => (gts_one (gt_val (ge_f c__law_is_outer hr (by decide) hG (by rfl) b__law_is_outer (ga_val (ge_sub (ge_var (pe_var (i := 0) rfl (.inr (.inl rfl)))) (ge_var (pe_var (i := 2) rfl (.inr (.inl rfl))))) (ga_val (ge_lc (own := [("other", 3)]) rfl S.nd (gi_seq (ge_var (pe_var (i := 1) rfl (.inr (.inl rfl))))) (blkOk_by (by kernel_rfl)) (fun _ _ _ _ _ => (gg_one (pg_name (i := 3) S.nd rfl (.inl rfl)))) (fun _ _ _ _ _ => (gts_one (gt_c (c_ne hr) (ge_var (pe_var (i := 3) rfl (.inl rfl))) (ge_var (pe_var (i := 2) rfl (.inr (.inl rfl)))) (nomark _)))) (fun _ _ _ _ _ => (ge_sub (ge_var (pe_var (i := 0) rfl (.inr (.inl rfl)))) (ge_var (pe_var (i := 3) rfl (.inl rfl))))) (by rfl)) ga_nil)) (by decide))))) (fun _ _ _ _ _ => (ge_var (pe_var (i := 2) rfl (.inr (.inl rfl))))) (by rfl)) (by intro _ h; cases h))
    gb_nil)
/-! _law_points -/
noncomputable def k__law_points : List CS := [.par [2, 3] (.cons (.call f__law_draw "_law_draw" (.cons (.var 0) (.cons (.k (.int 5)) .nil)) []) (.cons (.lst .nil) .nil)),
  .par [4, 5] (.cons (.tup (.cons (.bin .sub (.call f__law_draw "_law_draw" (.cons (.var 0) (.cons (.k (.int 201)) .nil)) []) (.k (.int 100))) (.cons (.bin .sub (.call f__law_draw "_law_draw" (.cons (.var 0) (.cons (.k (.int 201)) .nil)) []) (.k (.int 100))) .nil))) (.cons (.call f__law_one "_law_one" (.cons (.var 0) (.cons (.lst (.cons (.tup (.cons (.k (.int 1)) (.cons (.k (.int 0)) .nil))) (.cons (.tup (.cons (.k (.int 0)) (.cons (.k (.int 1)) .nil))) (.cons (.tup (.cons (.k (.int 3)) (.cons (.un .neg (.k (.int 2))) .nil))) (.cons (.tup (.cons (.k (.int 5)) (.cons (.k (.int 7)) .nil))) (.cons (.tup (.cons (.un .neg (.k (.int 1))) (.cons (.un .neg (.k (.int 1))) .nil))) .nil)))))) .nil)) []) .nil)),
  .set 6 (.lst (.cons (.tup (.cons (.k (.int 0)) (.cons (.k (.int 5)) .nil))) (.cons (.tup (.cons (.k (.int 3)) (.cons (.k (.int 4)) .nil))) (.cons (.tup (.cons (.k (.int 4)) (.cons (.k (.int 3)) .nil))) (.cons (.tup (.cons (.k (.int 5)) (.cons (.k (.int 0)) .nil))) (.cons (.tup (.cons (.k (.int 4)) (.cons (.un .neg (.k (.int 3))) .nil))) (.cons (.tup (.cons (.k (.int 0)) (.cons (.un .neg (.k (.int 5))) .nil))) (.cons (.tup (.cons (.un .neg (.k (.int 3))) (.cons (.un .neg (.k (.int 4))) .nil))) (.cons (.tup (.cons (.un .neg (.k (.int 5))) (.cons (.k (.int 0)) .nil))) (.cons (.tup (.cons (.un .neg (.k (.int 4))) (.cons (.k (.int 3)) .nil))) .nil)))))))))),
  .for_ (.one 7) (.rng (.cons (.bin .add (.k (.int 1)) (.call f__law_draw "_law_draw" (.cons (.var 0) (.cons (.var 1) .nil)) [])) .nil)) [.set 8 (.bin .sub (.call f__law_draw "_law_draw" (.cons (.var 0) (.cons (.k (.int 41)) .nil)) []) (.k (.int 20))),
  .set 9 (.tup (.cons (.bin .sub (.call f__law_draw "_law_draw" (.cons (.var 0) (.cons (.k (.int 2001)) .nil)) []) (.k (.int 1000))) (.cons (.bin .sub (.call f__law_draw "_law_draw" (.cons (.var 0) (.cons (.k (.int 2001)) .nil)) []) (.k (.int 1000))) .nil))),
  .set 10 (.tup (.cons (.call f__law_draw "_law_draw" (.cons (.var 0) (.cons (.k (.int 4)) .nil)) []) (.cons (.call f__law_draw "_law_draw" (.cons (.var 0) (.cons (.k (.int 3)) .nil)) []) .nil))),
  .set 11 (.sub (.lst (.cons (.var 10) (.cons (.var 10) (.cons (.tup (.cons (.bin .add (.sub (.var 4) (.k (.int 0))) (.bin .mul (.var 8) (.sub (.var 5) (.k (.int 0))))) (.cons (.bin .add (.sub (.var 4) (.k (.int 1))) (.bin .mul (.var 8) (.sub (.var 5) (.k (.int 1))))) .nil))) (.cons (.call f__law_one "_law_one" (.cons (.var 0) (.cons (.var 6) .nil)) []) (.cons (.var 9) .nil)))))) (.var 2)),
  .ifs (.val (.cmp .notin (.var 11) (.var 3))) [.app 3 (.var 11)] []],
  .ret (.bi .tuple (.cons (.var 3) .nil))]
noncomputable def f__law_points : Fn := mkFn [true, false] 12 k__law_points
theorem s__law_points : FnScope ["feed", "most", "way", "got", "start", "step", "around", "turn", "on_line", "far", "net", "point"] ["feed", "most"] (C8.fnScope (topS 32)) := C8.fnScope_by (by decide +kernel)
theorem b__law_points : ∀ (kV doc pm : Value) (an : Option Addr) (cdv ct : Value) (us : List Value), us.length = (["feed", "most"] : List Str).length → bindArgs (PySem.W.fnOf "_law_points" "_law_points" (C8.fnArgs (topS 32)) (C8.fnBody (topS 32)) (C8.fnScope (topS 32)) .none kV doc pm an cdv ct) ⟨us, []⟩ = pure ((["feed", "most"] : List Str).zip us) := fun _ _ _ _ _ _ us h => match us, h with
  | [_, _], _ => rfl
theorem ok__law_points {P : Program} {w : World} {K : PySem.W.Frag} {mg : Str → Option Value} {base : Heap} (F : DefG K mg "_law_points" (topS 32)) (c__law_draw : CalG P w K mg base 1 "_law_draw" (topS 26) ["feed", "many"] f__law_draw) (c__law_one : CalG P w K mg base 2 "_law_one" (topS 27) ["feed", "things"] f__law_one) (z_range : mg "range" = none) (z_tuple : mg "tuple" = none) : CalG P w K mg base 3 "_law_points" (topS 32) ["feed", "most"] f__law_points :=
  have S := s__law_points
  F.cal S rfl fun f cdv A outer s H hr hG => (gb_cons (gs_par2 (i := 2) (j := 3) rfl S.nd rfl rfl (by decide) rfl rfl (gv_cons (ge_f c__law_draw hr (by decide) hG (by rfl) b__law_draw (ga_io (pe_var (i := 0) rfl (.inl rfl)) (ga_val (ge_k pe_int fun _ => .int _) ga_nil)) (by decide)) (gv_cons (ge_lst gv_nil) gv_nil)) (by rfl))
    (gb_cons (gs_par2 (i := 4) (j := 5) rfl S.nd rfl rfl (by decide) rfl rfl (gv_cons (ge_tup (gv_cons (ge_b b_sub (ge_f c__law_draw hr (by decide) hG (by rfl) b__law_draw (ga_io (pe_var (i := 0) rfl (.inl rfl)) (ga_val (ge_k pe_int fun _ => .int _) ga_nil)) (by decide)) (ge_k pe_int fun _ => .int _)) (gv_cons (ge_b b_sub (ge_f c__law_draw hr (by decide) hG (by rfl) b__law_draw (ga_io (pe_var (i := 0) rfl (.inl rfl)) (ga_val (ge_k pe_int fun _ => .int _) ga_nil)) (by decide)) (ge_k pe_int fun _ => .int _)) gv_nil))) (gv_cons (ge_f c__law_one hr (by decide) hG (by rfl) b__law_one (ga_io (pe_var (i := 0) rfl (.inl rfl)) (ga_val (ge_lst (gv_cons (ge_tup (gv_cons (ge_k pe_int fun _ => .int _) (gv_cons (ge_k pe_int fun _ => .int _) gv_nil))) (gv_cons (ge_tup (gv_cons (ge_k pe_int fun _ => .int _) (gv_cons (ge_k pe_int fun _ => .int _) gv_nil))) (gv_cons (ge_tup (gv_cons (ge_k pe_int fun _ => .int _) (gv_cons (ge_neg (ge_k pe_int fun _ => .int _)) gv_nil))) (gv_cons (ge_tup (gv_cons (ge_k pe_int fun _ => .int _) (gv_cons (ge_k pe_int fun _ => .int _) gv_nil))) (gv_cons (ge_tup (gv_cons (ge_neg (ge_k pe_int fun _ => .int _)) (gv_cons (ge_neg (ge_k pe_int fun _ => .int _)) gv_nil))) gv_nil)))))) ga_nil)) (by decide)) gv_nil)) (by rfl))
    (gb_cons (gs_set (i := 6) S.nd rfl (.inl rfl) (ge_lst (gv_cons (ge_tup (gv_cons (ge_k pe_int fun _ => .int _) (gv_cons (ge_k pe_int fun _ => .int _) gv_nil))) (gv_cons (ge_tup (gv_cons (ge_k pe_int fun _ => .int _) (gv_cons (ge_k pe_int fun _ => .int _) gv_nil))) (gv_cons (ge_tup (gv_cons (ge_k pe_int fun _ => .int _) (gv_cons (ge_k pe_int fun _ => .int _) gv_nil))) (gv_cons (ge_tup (gv_cons (ge_k pe_int fun _ => .int _) (gv_cons (ge_k pe_int fun _ => .int _) gv_nil))) (gv_cons (ge_tup (gv_cons (ge_k pe_int fun _ => .int _) (gv_cons (ge_neg (ge_k pe_int fun _ => .int _)) gv_nil))) (gv_cons (ge_tup (gv_cons (ge_k pe_int fun _ => .int _) (gv_cons (ge_neg (ge_k pe_int fun _ => .int _)) gv_nil))) (gv_cons (ge_tup (gv_cons (ge_neg (ge_k pe_int fun _ => .int _)) (gv_cons (ge_neg (ge_k pe_int fun _ => .int _)) gv_nil))) (gv_cons (ge_tup (gv_cons (ge_neg (ge_k pe_int fun _ => .int _)) (gv_cons (ge_k pe_int fun _ => .int _) gv_nil))) (gv_cons (ge_tup (gv_cons (ge_neg (ge_k pe_int fun _ => .int _)) (gv_cons (ge_k pe_int fun _ => .int _) gv_nil))) gv_nil)))))))))) (.inl rfl))
    (gb_cons (gs_for PassesOwn.never rfl (gi_rng1 (by rfl) z_range (ge_b b_add (ge_k pe_int fun _ => .int _) (ge_f c__law_draw hr (by decide) hG (by rfl) b__law_draw (ga_io (pe_var (i := 0) rfl (.inl rfl)) (ga_val (ge_var (pe_var (i := 1) rfl (.inl rfl))) ga_nil)) (by decide)))) (gg_one (pg_name (i := 7) S.nd rfl (.inl rfl))) (gb_cons (gs_set (i := 8) S.nd rfl (.inl rfl) (ge_b b_sub (ge_f c__law_draw hr (by decide) hG (by rfl) b__law_draw (ga_io (pe_var (i := 0) rfl (.inl rfl)) (ga_val (ge_k pe_int fun _ => .int _) ga_nil)) (by decide)) (ge_k pe_int fun _ => .int _)) (.inl rfl))
    (gb_cons (gs_set (i := 9) S.nd rfl (.inl rfl) (ge_tup (gv_cons (ge_b b_sub (ge_f c__law_draw hr (by decide) hG (by rfl) b__law_draw (ga_io (pe_var (i := 0) rfl (.inl rfl)) (ga_val (ge_k pe_int fun _ => .int _) ga_nil)) (by decide)) (ge_k pe_int fun _ => .int _)) (gv_cons (ge_b b_sub (ge_f c__law_draw hr (by decide) hG (by rfl) b__law_draw (ga_io (pe_var (i := 0) rfl (.inl rfl)) (ga_val (ge_k pe_int fun _ => .int _) ga_nil)) (by decide)) (ge_k pe_int fun _ => .int _)) gv_nil))) (.inl rfl))
    (gb_cons (gs_set (i := 10) S.nd rfl (.inl rfl) (ge_tup (gv_cons (ge_f c__law_draw hr (by decide) hG (by rfl) b__law_draw (ga_io (pe_var (i := 0) rfl (.inl rfl)) (ga_val (ge_k pe_int fun _ => .int _) ga_nil)) (by decide)) (gv_cons (ge_f c__law_draw hr (by decide) hG (by rfl) b__law_draw (ga_io (pe_var (i := 0) rfl (.inl rfl)) (ga_val (ge_k pe_int fun _ => .int _) ga_nil)) (by decide)) gv_nil))) (.inl rfl))
    (gb_cons (gs_set (i := 11) S.nd rfl (.inl rfl) (ge_sub (ge_lst (gv_cons (ge_var (pe_var (i := 10) rfl (.inl rfl))) (gv_cons (ge_var (pe_var (i := 10) rfl (.inl rfl))) (gv_cons (ge_tup (gv_cons (ge_b b_add (ge_sub (ge_var (pe_var (i := 4) rfl (.inl rfl))) (ge_k pe_int fun _ => .int _)) (ge_b b_mul (ge_var (pe_var (i := 8) rfl (.inl rfl))) (ge_sub (ge_var (pe_var (i := 5) rfl (.inl rfl))) (ge_k pe_int fun _ => .int _)))) (gv_cons (ge_b b_add (ge_sub (ge_var (pe_var (i := 4) rfl (.inl rfl))) (ge_k pe_int fun _ => .int _)) (ge_b b_mul (ge_var (pe_var (i := 8) rfl (.inl rfl))) (ge_sub (ge_var (pe_var (i := 5) rfl (.inl rfl))) (ge_k pe_int fun _ => .int _)))) gv_nil))) (gv_cons (ge_f c__law_one hr (by decide) hG (by rfl) b__law_one (ga_io (pe_var (i := 0) rfl (.inl rfl)) (ga_val (ge_var (pe_var (i := 6) rfl (.inl rfl))) ga_nil)) (by decide)) (gv_cons (ge_var (pe_var (i := 9) rfl (.inl rfl))) gv_nil)))))) (ge_var (pe_var (i := 2) rfl (.inl rfl)))) (.inl rfl))
    (gb_cons (gs_if (gt_c (c_notin hr) (ge_var (pe_var (i := 11) rfl (.inl rfl))) (ge_var (pe_var (i := 3) rfl (.inl rfl))) (by with_unfolding_all rfl)) (gb_cons (gs_app (pe_var (i := 3) rfl (.inl rfl)) (ge_var (pe_var (i := 11) rfl (.inl rfl))))
    gb_nil) gb_nil)
    gb_nil))))))
    (gb_cons (gs_ret (ge_biT bs_tuple call_tuple_of PyProof.Rows.boot_tuple (by decide) (by rfl) z_tuple (gv_cons (ge_var (pe_var (i := 3) rfl (.inl rfl))) gv_nil) (by decide)) (by intro _ h; cases h))
    gb_nil)))))
/-! is_deeds -/
noncomputable def k_is_deeds : List CS := [.ret (.land (.call f_is_row "is_row" (.cons (.var 0) (.cons (.k (.int 0)) (.cons (.var 1) .nil))) []) (.land (.bi .all (.cons (.lc (.call f_is_deed "is_deed" (.cons (.var 2) (.cons (.var 1) .nil)) []) (.seq (.var 0)) (.one 2) .nil [2]) .nil)) (.call f_is_ascending "is_ascending" (.cons (.var 0) .nil) [])))]
noncomputable def f_is_deeds : Fn := mkFn [false, false] 3 k_is_deeds
theorem s_is_deeds : FnScope ["thing", "many", "part"] ["thing", "many"] (C8.fnScope (topS 11)) := C8.fnScope_by (by decide +kernel)
theorem b_is_deeds : ∀ (kV doc pm : Value) (an : Option Addr) (cdv ct : Value) (us : List Value), us.length = (["thing", "many"] : List Str).length → bindArgs (PySem.W.fnOf "is_deeds" "is_deeds" (C8.fnArgs (topS 11)) (C8.fnBody (topS 11)) (C8.fnScope (topS 11)) .none kV doc pm an cdv ct) ⟨us, []⟩ = pure ((["thing", "many"] : List Str).zip us) := fun _ _ _ _ _ _ us h => match us, h with
  | [_, _], _ => rfl
theorem ok_is_deeds {P : Program} {w : World} {K : PySem.W.Frag} {mg : Str → Option Value} {base : Heap} (F : DefG K mg "is_deeds" (topS 11)) (c_is_ascending : CalG P w K mg base 1 "is_ascending" (topS 8) ["things"] f_is_ascending) (c_is_deed : CalG P w K mg base 3 "is_deed" (topS 10) ["thing", "many"] f_is_deed) (c_is_row : CalG P w K mg base 1 "is_row" (topS 7) ["thing", "least", "most"] f_is_row) (z_all : mg "all" = none) : CalG P w K mg base 4 "is_deeds" (topS 11) ["thing", "many"] f_is_deeds :=
  have S := s_is_deeds
  F.cal S rfl fun f cdv A outer s H hr hG => (gb_cons (gs_ret (ge_and (ge_f c_is_row hr (by decide) hG (by rfl) b_is_row (ga_val (ge_var (pe_var (i := 0) rfl (.inl rfl))) (ga_val (ge_k pe_int fun _ => .int _) (ga_val (ge_var (pe_var (i := 1) rfl (.inr (.inl rfl)))) ga_nil))) (by decide)) (ge_and (ge_biB bs_all (cr_all rfl) PyProof.Rows.boot_all (by decide) (by rfl) z_all (gv_cons (ge_lc (own := [("part", 2)]) rfl S.nd (gi_seq (ge_var (pe_var (i := 0) rfl (.inl rfl)))) (blkOk_by (by kernel_rfl)) (fun _ _ _ _ _ => (gg_one (pg_name (i := 2) S.nd rfl (.inl rfl)))) (fun _ _ _ _ _ => gts_nil) (fun _ _ _ _ _ => (ge_f c_is_deed hr (by decide) hG (by rfl) b_is_deed (ga_val (ge_var (pe_var (i := 2) rfl (.inl rfl))) (ga_val (ge_var (pe_var (i := 1) rfl (.inr (.inl rfl)))) ga_nil)) (by decide))) (by rfl)) gv_nil) (by decide)) (ge_one (ge_f c_is_ascending hr (by decide) hG (by rfl) b_is_ascending (ga_val (ge_var (pe_var (i := 0) rfl (.inl rfl))) ga_nil) (by decide))))) (by intro _ h; cases h))
    gb_nil)
/-! need_points -/
noncomputable def k_need_points : List CS := [.ifs (.or (.not (.val (.call f_is_row "is_row" (.cons (.var 0) (.cons (.k (.int 1)) (.cons (.k (.int 7)) .nil))) []))) (.not (.val (.bi .all (.cons (.lc (.call f_is_point "is_point" (.cons (.var 1) .nil) []) (.seq (.var 0)) (.one 1) .nil [1]) .nil))))) [.raise "BadPoints"] [],
  .ifs (.val (.cmp .lt (.bi .lenset (.cons (.var 0) .nil)) (.bi .len (.cons (.var 0) .nil)))) [.raise "BadPoints"] []]
noncomputable def f_need_points : Fn := mkFn [false] 2 k_need_points
theorem s_need_points : FnScope ["points", "point"] ["points"] (C8.fnScope (topS 20)) := C8.fnScope_by (by decide +kernel)
theorem b_need_points : ∀ (kV doc pm : Value) (an : Option Addr) (cdv ct : Value) (us : List Value), us.length = (["points"] : List Str).length → bindArgs (PySem.W.fnOf "need_points" "need_points" (C8.fnArgs (topS 20)) (C8.fnBody (topS 20)) (C8.fnScope (topS 20)) .none kV doc pm an cdv ct) ⟨us, []⟩ = pure ((["points"] : List Str).zip us) := fun _ _ _ _ _ _ us h => match us, h with
  | [_], _ => rfl
theorem ok_need_points {P : Program} {w : World} {K : PySem.W.Frag} {mg : Str → Option Value} {base : Heap} (F : DefG K mg "need_points" (topS 20)) (c_is_point : CalG P w K mg base 3 "is_point" (topS 19) ["thing"] f_is_point) (c_is_row : CalG P w K mg base 1 "is_row" (topS 7) ["thing", "least", "most"] f_is_row) (z_all : mg "all" = none) (z_len : mg "len" = none) (z_set : mg "set" = none) (g_MOST_POINTS : ∃ t, mg "MOST_POINTS" = some (.int 7 t)) : CalG P w K mg base 4 "need_points" (topS 20) ["points"] f_need_points :=
  have S := s_need_points
  F.cal S rfl fun f cdv A outer s H hr hG => (gb_cons (gs_if (GW.gt (gw_or (gt_not (gt_val (ge_f c_is_row hr (by decide) hG (by rfl) b_is_row (ga_val (ge_var (pe_var (i := 0) rfl (.inl rfl))) (ga_val (ge_k pe_int fun _ => .int _) (ga_val (ge_k (pe_glob (v := .int 7) (by rfl) g_MOST_POINTS.choose_spec ⟨_, rfl⟩) fun _ => .int _) ga_nil))) (by decide)))) (gw_or1 (gt_not (gt_val (ge_biB bs_all (cr_all rfl) PyProof.Rows.boot_all (by decide) (by rfl) z_all (gv_cons (ge_lc (own := [("point", 1)]) rfl S.nd (gi_seq (ge_var (pe_var (i := 0) rfl (.inl rfl)))) (blkOk_by (by kernel_rfl)) (fun _ _ _ _ _ => (gg_one (pg_name (i := 1) S.nd rfl (.inl rfl)))) (fun _ _ _ _ _ => gts_nil) (fun _ _ _ _ _ => (ge_f c_is_point hr (by decide) hG (by rfl) b_is_point (ga_val (ge_var (pe_var (i := 1) rfl (.inl rfl))) ga_nil) (by decide))) (by rfl)) gv_nil) (by decide))))))) (gb_cons gs_raise
    gb_nil) gb_nil)
    (gb_cons (gs_if (gt_c (c_lt hr) (ge_lenset rfl hr.units (by rfl) z_len (by rfl) z_set (ge_var (pe_var (i := 0) rfl (.inl rfl)))) (ge_biB bs_len call_len PySem.boot_len (by decide) (by rfl) z_len (gv_cons (ge_var (pe_var (i := 0) rfl (.inl rfl))) gv_nil) (by decide)) (nomark _)) (gb_cons gs_raise
    gb_nil) gb_nil)
    gb_nil))
/-! need_left -/
noncomputable def k_need_left : List CS := [.ifs (.or (.not (.val (.call f_is_deeds "is_deeds" (.cons (.var 1) (.cons (.bi .len (.cons (.var 0) .nil)) .nil)) []))) (.val (.cmp .lt (.bi .len (.cons (.var 1) .nil)) (.k (.int 1))))) [.raise "BadSet"] []]
noncomputable def f_need_left : Fn := mkFn [false, false] 2 k_need_left
theorem s_need_left : FnScope ["points", "left"] ["points", "left"] (C8.fnScope (topS 21)) := C8.fnScope_by (by decide +kernel)
theorem b_need_left : ∀ (kV doc pm : Value) (an : Option Addr) (cdv ct : Value) (us : List Value), us.length = (["points", "left"] : List Str).length → bindArgs (PySem.W.fnOf "need_left" "need_left" (C8.fnArgs (topS 21)) (C8.fnBody (topS 21)) (C8.fnScope (topS 21)) .none kV doc pm an cdv ct) ⟨us, []⟩ = pure ((["points", "left"] : List Str).zip us) := fun _ _ _ _ _ _ us h => match us, h with
  | [_, _], _ => rfl
theorem ok_need_left {P : Program} {w : World} {K : PySem.W.Frag} {mg : Str → Option Value} {base : Heap} (F : DefG K mg "need_left" (topS 21)) (c_is_deeds : CalG P w K mg base 4 "is_deeds" (topS 11) ["thing", "many"] f_is_deeds) (z_len : mg "len" = none) : CalG P w K mg base 5 "need_left" (topS 21) ["points", "left"] f_need_left :=
  have S := s_need_left
  F.cal S rfl fun f cdv A outer s H hr hG => (gb_cons (gs_if (GW.gt (gw_or (gt_not (gt_val (ge_f c_is_deeds hr (by decide) hG (by rfl) b_is_deeds (ga_val (ge_var (pe_var (i := 1) rfl (.inl rfl))) (ga_val (ge_biB bs_len call_len PySem.boot_len (by decide) (by rfl) z_len (gv_cons (ge_var (pe_var (i := 0) rfl (.inl rfl))) gv_nil) (by decide)) ga_nil)) (by decide)))) (gw_or1 (gt_c (c_lt hr) (ge_biB bs_len call_len PySem.boot_len (by decide) (by rfl) z_len (gv_cons (ge_var (pe_var (i := 1) rfl (.inl rfl))) gv_nil) (by decide)) (ge_k pe_int fun _ => .int _) (nomark _))))) (gb_cons gs_raise
    gb_nil) gb_nil)
    gb_nil)
/-! outer_points -/
noncomputable def k_outer_points : List CS := [.expr (.call f_need_points "need_points" (.cons (.var 0) .nil) []),
  .expr (.call f_need_left "need_left" (.cons (.var 0) (.cons (.var 1) .nil)) []),
  .ret (.call f_outer_of "outer_of" (.cons (.var 0) (.cons (.var 1) .nil)) [])]
noncomputable def f_outer_points : Fn := mkFn [false, false] 2 k_outer_points
theorem s_outer_points : FnScope ["points", "left"] ["points", "left"] (C8.fnScope (topS 23)) := C8.fnScope_by (by decide +kernel)
theorem b_outer_points : ∀ (kV doc pm : Value) (an : Option Addr) (cdv ct : Value) (us : List Value), us.length = (["points", "left"] : List Str).length → bindArgs (PySem.W.fnOf "outer_points" "outer_points" (C8.fnArgs (topS 23)) (C8.fnBody (topS 23)) (C8.fnScope (topS 23)) .none kV doc pm an cdv ct) ⟨us, []⟩ = pure ((["points", "left"] : List Str).zip us) := fun _ _ _ _ _ _ us h => match us, h with
  | [_, _], _ => rfl
theorem ok_outer_points {P : Program} {w : World} {K : PySem.W.Frag} {mg : Str → Option Value} {base : Heap} (F : DefG K mg "outer_points" (topS 23)) (c_need_left : CalG P w K mg base 5 "need_left" (topS 21) ["points", "left"] f_need_left) (c_need_points : CalG P w K mg base 4 "need_points" (topS 20) ["points"] f_need_points) (c_outer_of : CalG P w K mg base 3 "outer_of" (topS 15) ["points", "left"] f_outer_of) : CalG P w K mg base 6 "outer_points" (topS 23) ["points", "left"] f_outer_points :=
  have S := s_outer_points
  F.cal S rfl fun f cdv A outer s H hr hG => (gb_cons (gs_expr (ge_f c_need_points hr (by decide) hG (by rfl) b_need_points (ga_val (ge_var (pe_var (i := 0) rfl (.inl rfl))) ga_nil) (by decide)))
    (gb_cons (gs_expr (ge_f c_need_left hr (by decide) hG (by rfl) b_need_left (ga_val (ge_var (pe_var (i := 0) rfl (.inl rfl))) (ga_val (ge_var (pe_var (i := 1) rfl (.inl rfl))) ga_nil)) (by decide)))
    (gb_cons (gs_ret (ge_f c_outer_of hr (by decide) hG (by rfl) b_outer_of (ga_val (ge_var (pe_var (i := 0) rfl (.inl rfl))) (ga_val (ge_var (pe_var (i := 1) rfl (.inl rfl))) ga_nil)) (by decide)) (by intro _ h; cases h))
    gb_nil)))
/-! law -/
noncomputable def k_law : List CS := [.for_ (.one 1) (.rng (.cons (.bi .max2 (.cons (.k (.int 1)) (.cons (.bi .min2 (.cons (.bi .len (.cons (.var 0) .nil)) (.cons (.k (.int 4)) .nil))) .nil))) .nil)) [.set 2 (.call f__law_feed "_law_feed" (.cons (.var 0) (.cons (.var 1) .nil)) []),
  .set 3 (.call f__law_points "_law_points" (.cons (.var 2) (.cons (.k (.int 7)) .nil)) []),
  .set 4 (.bi .lrange (.cons (.bi .len (.cons (.var 3) .nil)) .nil)),
  .for_ (.one 5) (.seq (.lst (.cons (.bi .tuple (.cons (.var 4) .nil)) (.cons (.tup (.cons (.call f__law_draw "_law_draw" (.cons (.var 2) (.cons (.bi .len (.cons (.var 4) .nil)) .nil)) []) .nil)) (.cons (.call f__law_some "_law_some" (.cons (.var 2) (.cons (.var 4) (.cons (.k (.int 2)) .nil))) []) (.cons (.bi .tuple (.cons (.slc (.var 4) (.cons (.k (.int 1)) .nil) .nil) .nil)) .nil)))))) [.ifs (.val (.cmp .ne (.var 5) (.tup .nil))) [.par [6, 7] (.cons (.call f__law_outer "_law_outer" (.cons (.var 3) (.cons (.bi .list (.cons (.var 5) .nil)) .nil)) []) (.cons (.call f_outer_points "outer_points" (.cons (.var 3) (.cons (.var 5) .nil)) []) .nil)),
  .ifs (.or (.not (.val (.isi (.var 7) "list"))) (.or (.val (.cmp .ne (.bi .repr (.cons (.var 7) .nil)) (.bi .repr (.cons (.var 6) .nil)))) (.val (.cmp .ne (.bi .repr (.cons (.call f_outer_points "outer_points" (.cons (.var 5) (.cons (.var 3) .nil)) [1, 0]) .nil)) (.bi .repr (.cons (.var 6) .nil)))))) [.ret (.k (.bool false))] [],
  .app 7 (.k (.str "spoilt")),
  .set 8 (.bi .sorted (.cons (.lc (.tup (.cons (.sub (.var 3) (.var 10)) (.cons (.var 10) .nil))) (.seq (.var 5)) (.one 10) .nil [10]) .nil)),
  .ifs (.or (.val (.cmp .ne (.call f_outer_points "outer_points" (.cons (.var 3) (.cons (.var 5) .nil)) []) (.var 6))) (.or (.val (.cmp .notin (.sub (.sub (.var 8) (.k (.int 0))) (.k (.int 1))) (.var 6))) (.val (.cmp .notin (.sub (.sub (.var 8) (.un .neg (.k (.int 1)))) (.k (.int 1))) (.var 6))))) [.ret (.k (.bool false))] [],
  .set 9 (.slc (.lc (.var 10) (.seq (.var 5)) (.one 10) (.cons (.val (.cmp .notin (.var 10) (.var 6))) .nil) [10]) .nil (.cons (.k (.int 1)) .nil)),
  .ifs (.val (.cmp .ne (.call f_outer_points "outer_points" (.cons (.var 3) (.cons (.bi .tuple (.cons (.lc (.var 10) (.seq (.var 5)) (.one 10) (.cons (.val (.cmp .notin (.var 10) (.var 9))) .nil) [10]) .nil)) .nil)) []) (.var 6))) [.ret (.k (.bool false))] [],
  .ifs (.or (.val (.cmp .ne (.call f_outer_points "outer_points" (.cons (.call f__law_moved "_law_moved" (.cons (.var 2) (.cons (.var 3) .nil)) []) (.cons (.var 5) .nil)) []) (.var 6))) (.and (.val (.cmp .lt (.bi .len (.cons (.var 5) .nil)) (.k (.int 3)))) (.val (.cmp .ne (.var 6) (.bi .list (.cons (.var 5) .nil)))))) [.ret (.k (.bool false))] []] []]],
  .ret (.k (.bool true))]
noncomputable def f_law : Fn := mkFn [false] 11 k_law
theorem s_law : FnScope ["script", "k", "feed", "points", "every", "left", "due", "told", "ends", "inner", "at"] ["script"] (C8.fnScope (topS 34)) := C8.fnScope_by (by decide +kernel)
theorem b_law : ∀ (kV doc pm : Value) (an : Option Addr) (cdv ct : Value) (us : List Value), us.length = (["script"] : List Str).length → bindArgs (PySem.W.fnOf "law" "law" (C8.fnArgs (topS 34)) (C8.fnBody (topS 34)) (C8.fnScope (topS 34)) .none kV doc pm an cdv ct) ⟨us, []⟩ = pure ((["script"] : List Str).zip us) := fun _ _ _ _ _ _ us h => match us, h with
  | [_], _ => rfl
theorem ok_law {P : Program} {w : World} {K : PySem.W.Frag} {mg : Str → Option Value} {base : Heap} (F : DefG K mg "law" (topS 34)) (c__law_draw : CalG P w K mg base 1 "_law_draw" (topS 26) ["feed", "many"] f__law_draw) (c__law_feed : CalG P w K mg base 1 "_law_feed" (topS 25) ["script", "k"] f__law_feed) (c__law_moved : CalG P w K mg base 2 "_law_moved" (topS 33) ["feed", "points"] f__law_moved) (c__law_outer : CalG P w K mg base 3 "_law_outer" (topS 31) ["points", "left"] f__law_outer) (c__law_points : CalG P w K mg base 3 "_law_points" (topS 32) ["feed", "most"] f__law_points) (c__law_some : CalG P w K mg base 2 "_law_some" (topS 28) ["feed", "things", "share"] f__law_some) (c_outer_points : CalG P w K mg base 6 "outer_points" (topS 23) ["points", "left"] f_outer_points) (z_isinstance : mg "isinstance" = none) (z_len : mg "len" = none) (z_list : mg "list" = none) (z_max : mg "max" = none) (z_min : mg "min" = none) (z_range : mg "range" = none) (z_repr : mg "repr" = none) (z_sorted : mg "sorted" = none) (z_tuple : mg "tuple" = none) (it_list : isTab K "list" = true) (it_tuple : isTab K "tuple" = true) : CalG P w K mg base 7 "law" (topS 34) ["script"] f_law :=
  have S := s_law
  F.cal S rfl fun f cdv A outer s H hr hG => (gb_cons (gs_for PassesOwn.never rfl (gi_rng1 (by rfl) z_range (ge_biB bs_max2 (call_max2 rfl) PyProof.Rows.boot_max (by decide) (by rfl) z_max (gv_cons (ge_k pe_int fun _ => .int _) (gv_cons (ge_biB bs_min2 (call_min2 rfl) PyProof.Rows.boot_min (by decide) (by rfl) z_min (gv_cons (ge_biB bs_len call_len PySem.boot_len (by decide) (by rfl) z_len (gv_cons (ge_var (pe_var (i := 0) rfl (.inl rfl))) gv_nil) (by decide)) (gv_cons (ge_k pe_int fun _ => .int _) gv_nil)) (by decide)) gv_nil)) (by decide))) (gg_one (pg_name (i := 1) S.nd rfl (.inl rfl))) (gb_cons (gs_set (i := 2) S.nd rfl (.inl rfl) (ge_f c__law_feed hr (by decide) hG (by rfl) b__law_feed (ga_val (ge_var (pe_var (i := 0) rfl (.inl rfl))) (ga_val (ge_var (pe_var (i := 1) rfl (.inl rfl))) ga_nil)) (by decide)) (.inl rfl))
    (gb_cons (gs_set (i := 3) S.nd rfl (.inr rfl) (ge_f c__law_points hr (by decide) hG (by rfl) b__law_points (ga_io (pe_var (i := 2) rfl (.inl rfl)) (ga_val (ge_k pe_int fun _ => .int _) ga_nil)) (by decide)) (.inl rfl))
    (gb_cons (gs_set (i := 4) S.nd rfl (.inl rfl) (ge_lrange1 rfl (by rfl) z_list (by rfl) z_range (ge_biB bs_len call_len PySem.boot_len (by decide) (by rfl) z_len (gv_cons (ge_var (pe_var (i := 3) rfl (.inr (.inl rfl)))) gv_nil) (by decide))) (.inl rfl))
    (gb_cons (gs_for PassesOwn.never rfl (gi_seq (ge_lst (gv_cons (ge_biT bs_tuple call_tuple_of PyProof.Rows.boot_tuple (by decide) (by rfl) z_tuple (gv_cons (ge_var (pe_var (i := 4) rfl (.inl rfl))) gv_nil) (by decide)) (gv_cons (ge_tup (gv_cons (ge_f c__law_draw hr (by decide) hG (by rfl) b__law_draw (ga_io (pe_var (i := 2) rfl (.inl rfl)) (ga_val (ge_biB bs_len call_len PySem.boot_len (by decide) (by rfl) z_len (gv_cons (ge_var (pe_var (i := 4) rfl (.inl rfl))) gv_nil) (by decide)) ga_nil)) (by decide)) gv_nil)) (gv_cons (ge_f c__law_some hr (by decide) hG (by rfl) b__law_some (ga_io (pe_var (i := 2) rfl (.inl rfl)) (ga_val (ge_var (pe_var (i := 4) rfl (.inl rfl))) (ga_val (ge_k pe_int fun _ => .int _) ga_nil))) (by decide)) (gv_cons (ge_biT bs_tuple call_tuple_of PyProof.Rows.boot_tuple (by decide) (by rfl) z_tuple (gv_cons (ge_slc (ge_var (pe_var (i := 4) rfl (.inl rfl))) (go_some (ge_k pe_int fun _ => .int _)) go_none) gv_nil) (by decide)) gv_nil)))))) (gg_one (pg_name (i := 5) S.nd rfl (.inl rfl))) (gb_cons (gs_if (gt_c (c_ne hr) (ge_var (pe_var (i := 5) rfl (.inl rfl))) (ge_tup gv_nil) (nomark _)) (gb_cons (gs_parT rfl (gv_cons (ge_f c__law_outer hr (by decide) hG (by rfl) b__law_outer (ga_val (ge_var (pe_var (i := 3) rfl (.inr (.inl rfl)))) (ga_val (ge_biT bs_list call_list_of PyProof.Rows.boot_list (by decide) (by rfl) z_list (gv_cons (ge_var (pe_var (i := 5) rfl (.inl rfl))) gv_nil) (by decide)) ga_nil)) (by decide)) (gv_cons (ge_f c_outer_points hr (by decide) hG (by rfl) b_outer_points (ga_val (ge_var (pe_var (i := 3) rfl (.inr (.inl rfl)))) (ga_val (ge_var (pe_var (i := 5) rfl (.inl rfl))) ga_nil)) (by decide)) gv_nil)) (gs_cons (pg_name (i := 6) S.nd rfl (.inr rfl)) (gs_cons (pg_name (i := 7) S.nd rfl (.inl rfl)) gs_nil)))
    (gb_cons (gs_if (GW.gt (gw_or (gt_not (gt_val (ge_isi (by rfl) z_isinstance (ge_var (pe_var (i := 7) rfl (.inl rfl))) (pe_bltn (by rfl) z_list PyProof.Rows.boot_list rfl) it_list))) (gw_or (gt_c (c_ne hr) (ge_biB bs_repr (cr_repr hr.units hG) PyProof.Rows.boot_repr (by decide) (by rfl) z_repr (gv_cons (ge_var (pe_var (i := 7) rfl (.inl rfl))) gv_nil) (by decide)) (ge_biB bs_repr (cr_repr hr.units hG) PyProof.Rows.boot_repr (by decide) (by rfl) z_repr (gv_cons (ge_var (pe_var (i := 6) rfl (.inr (.inl rfl)))) gv_nil) (by decide)) (nomark _)) (gw_or1 (gt_c (c_ne hr) (ge_biB bs_repr (cr_repr hr.units hG) PyProof.Rows.boot_repr (by decide) (by rfl) z_repr (gv_cons (ge_fK (perm := [1, 0]) c_outer_points hr (by decide) hG (by rfl) (fun _ _ _ _ _ _ ws h => match ws, h with | [_, _], _ => rfl) (gk_cons (ge_var (pe_var (i := 5) rfl (.inl rfl))) (gk_cons (ge_var (pe_var (i := 3) rfl (.inr (.inl rfl)))) gk_nil)) rfl rfl (by decide)) gv_nil) (by decide)) (ge_biB bs_repr (cr_repr hr.units hG) PyProof.Rows.boot_repr (by decide) (by rfl) z_repr (gv_cons (ge_var (pe_var (i := 6) rfl (.inr (.inl rfl)))) gv_nil) (by decide)) (nomark _)))))) (gb_cons (gs_ret (ge_k pe_bl fun _ => .bl _) (by intro _ h; cases h))
    gb_nil) gb_nil)
    (gb_cons (gs_app (pe_var (i := 7) rfl (.inl rfl)) (ge_k pe_str fun _ => .str _))
    (gb_cons (gs_set (i := 8) S.nd rfl (.inl rfl) (ge_biB bs_sorted (cr_sortA hr.units) PyProof.Rows.boot_sorted (by decide) (by rfl) z_sorted (gv_cons (ge_lc (own := [("at", 10)]) rfl S.nd (gi_seq (ge_var (pe_var (i := 5) rfl (.inl rfl)))) (blkOk_by (by kernel_rfl)) (fun _ _ _ _ _ => (gg_one (pg_name (i := 10) S.nd rfl (.inl rfl)))) (fun _ _ _ _ _ => gts_nil) (fun _ _ _ _ _ => (ge_tup (gv_cons (ge_sub (ge_var (pe_var (i := 3) rfl (.inr (.inl rfl)))) (ge_var (pe_var (i := 10) rfl (.inl rfl)))) (gv_cons (ge_var (pe_var (i := 10) rfl (.inl rfl))) gv_nil)))) (by rfl)) gv_nil) (by decide)) (.inl rfl))
    (gb_cons (gs_if (GW.gt (gw_or (gt_c (c_ne hr) (ge_f c_outer_points hr (by decide) hG (by rfl) b_outer_points (ga_val (ge_var (pe_var (i := 3) rfl (.inr (.inl rfl)))) (ga_val (ge_var (pe_var (i := 5) rfl (.inl rfl))) ga_nil)) (by decide)) (ge_var (pe_var (i := 6) rfl (.inr (.inl rfl)))) (nomark _)) (gw_or (gt_c (c_notin hr) (ge_sub (ge_sub (ge_var (pe_var (i := 8) rfl (.inl rfl))) (ge_k pe_int fun _ => .int _)) (ge_k pe_int fun _ => .int _)) (ge_var (pe_var (i := 6) rfl (.inr (.inl rfl)))) (by with_unfolding_all rfl)) (gw_or1 (gt_c (c_notin hr) (ge_sub (ge_sub (ge_var (pe_var (i := 8) rfl (.inl rfl))) (ge_neg (ge_k pe_int fun _ => .int _))) (ge_k pe_int fun _ => .int _)) (ge_var (pe_var (i := 6) rfl (.inr (.inl rfl)))) (by with_unfolding_all rfl)))))) (gb_cons (gs_ret (ge_k pe_bl fun _ => .bl _) (by intro _ h; cases h))
    gb_nil) gb_nil)
    (gb_cons (gs_set (i := 9) S.nd rfl (.inr rfl) (ge_slc (ge_lc (own := [("at", 10)]) rfl S.nd (gi_seq (ge_var (pe_var (i := 5) rfl (.inl rfl)))) (blkOk_by (by kernel_rfl)) (fun _ _ _ _ _ => (gg_one (pg_name (i := 10) S.nd rfl (.inl rfl)))) (fun _ _ _ _ _ => (gts_one (gt_c (c_notin hr) (ge_var (pe_var (i := 10) rfl (.inl rfl))) (ge_var (pe_var (i := 6) rfl (.inr (.inl rfl)))) (by with_unfolding_all rfl)))) (fun _ _ _ _ _ => (ge_var (pe_var (i := 10) rfl (.inl rfl)))) (by rfl)) go_none (go_some (ge_k pe_int fun _ => .int _))) (.inl rfl))
    (gb_cons (gs_if (gt_c (c_ne hr) (ge_f c_outer_points hr (by decide) hG (by rfl) b_outer_points (ga_val (ge_var (pe_var (i := 3) rfl (.inr (.inl rfl)))) (ga_val (ge_biT bs_tuple call_tuple_of PyProof.Rows.boot_tuple (by decide) (by rfl) z_tuple (gv_cons (ge_lc (own := [("at", 10)]) rfl S.nd (gi_seq (ge_var (pe_var (i := 5) rfl (.inl rfl)))) (blkOk_by (by kernel_rfl)) (fun _ _ _ _ _ => (gg_one (pg_name (i := 10) S.nd rfl (.inl rfl)))) (fun _ _ _ _ _ => (gts_one (gt_c (c_notin hr) (ge_var (pe_var (i := 10) rfl (.inl rfl))) (ge_var (pe_var (i := 9) rfl (.inr (.inl rfl)))) (by with_unfolding_all rfl)))) (fun _ _ _ _ _ => (ge_var (pe_var (i := 10) rfl (.inl rfl)))) (by rfl)) gv_nil) (by decide)) ga_nil)) (by decide)) (ge_var (pe_var (i := 6) rfl (.inr (.inl rfl)))) (nomark _)) (gb_cons (gs_ret (ge_k pe_bl fun _ => .bl _) (by intro _ h; cases h))
    gb_nil) gb_nil)
    (gb_cons (gs_if (GW.gt (gw_or (gt_c (c_ne hr) (ge_f c_outer_points hr (by decide) hG (by rfl) b_outer_points (ga_val (ge_f c__law_moved hr (by decide) hG (by rfl) b__law_moved (ga_io (pe_var (i := 2) rfl (.inl rfl)) (ga_val (ge_var (pe_var (i := 3) rfl (.inr (.inl rfl)))) ga_nil)) (by decide)) (ga_val (ge_var (pe_var (i := 5) rfl (.inl rfl))) ga_nil)) (by decide)) (ge_var (pe_var (i := 6) rfl (.inr (.inl rfl)))) (nomark _)) (gw_or1 (GW.gt (gw_and (gt_c (c_lt hr) (ge_biB bs_len call_len PySem.boot_len (by decide) (by rfl) z_len (gv_cons (ge_var (pe_var (i := 5) rfl (.inl rfl))) gv_nil) (by decide)) (ge_k pe_int fun _ => .int _) (nomark _)) (gw_and1 (gt_c (c_ne hr) (ge_var (pe_var (i := 6) rfl (.inr (.inl rfl)))) (ge_biT bs_list call_list_of PyProof.Rows.boot_list (by decide) (by rfl) z_list (gv_cons (ge_var (pe_var (i := 5) rfl (.inl rfl))) gv_nil) (by decide)) (nomark _)))))))) (gb_cons (gs_ret (ge_k pe_bl fun _ => .bl _) (by intro _ h; cases h))
    gb_nil) gb_nil)
    gb_nil)))))))) gb_nil)
    gb_nil))
    gb_nil)))))
    (gb_cons (gs_ret (ge_k pe_bl fun _ => .bl _) (by intro _ h; cases h))
    gb_nil))
/-! all together -/
theorem all_ok {P : Program} {w : World} {K : PySem.W.Frag} {mg : Str → Option Value} {base : Heap} (F_is_integer : DefG K mg "is_integer" (topS 5)) (F_is_row : DefG K mg "is_row" (topS 7)) (F_is_ascending : DefG K mg "is_ascending" (topS 8)) (F_is_on_side : DefG K mg "is_on_side" (topS 13)) (F__law_feed : DefG K mg "_law_feed" (topS 25)) (F__law_draw : DefG K mg "_law_draw" (topS 26)) (F__law_point_sides : DefG K mg "_law_point_sides" (topS 29)) (F_is_within : DefG K mg "is_within" (topS 6)) (F_is_outer : DefG K mg "is_outer" (topS 14)) (F__law_one : DefG K mg "_law_one" (topS 27)) (F__law_some : DefG K mg "_law_some" (topS 28)) (F__law_is_outer : DefG K mg "_law_is_outer" (topS 30)) (F__law_moved : DefG K mg "_law_moved" (topS 33)) (F_is_deed : DefG K mg "is_deed" (topS 10)) (F_outer_of : DefG K mg "outer_of" (topS 15)) (F_is_point : DefG K mg "is_point" (topS 19)) (F__law_outer : DefG K mg "_law_outer" (topS 31)) (F__law_points : DefG K mg "_law_points" (topS 32)) (F_is_deeds : DefG K mg "is_deeds" (topS 11)) (F_need_points : DefG K mg "need_points" (topS 20)) (F_need_left : DefG K mg "need_left" (topS 21)) (F_outer_points : DefG K mg "outer_points" (topS 23)) (F_law : DefG K mg "law" (topS 34)) (z_abs : mg "abs" = none) (z_all : mg "all" = none) (z_any : mg "any" = none) (z_bool : mg "bool" = none) (z_enumerate : mg "enumerate" = none) (z_int : mg "int" = none) (z_isinstance : mg "isinstance" = none) (z_len : mg "len" = none) (z_list : mg "list" = none) (z_max : mg "max" = none) (z_min : mg "min" = none) (z_range : mg "range" = none) (z_repr : mg "repr" = none) (z_set : mg "set" = none) (z_sorted : mg "sorted" = none) (z_sum : mg "sum" = none) (z_tuple : mg "tuple" = none) (z_zip : mg "zip" = none) (g_FAR : ∃ t, mg "FAR" = some (.int 1000 t)) (g_MOST_POINTS : ∃ t, mg "MOST_POINTS" = some (.int 7 t)) (it_bool : isTab K "bool" = true) (it_int : isTab K "int" = true) (it_list : isTab K "list" = true) (it_tuple : isTab K "tuple" = true) : CalG P w K mg base 7 "law" (topS 34) ["script"] f_law :=
  have c_is_integer := ok_is_integer (P := P) (w := w) (base := base) F_is_integer z_bool z_int z_isinstance it_bool it_int
  have c_is_row := ok_is_row (P := P) (w := w) (base := base) F_is_row z_isinstance z_len z_tuple it_tuple
  have c_is_ascending := ok_is_ascending (P := P) (w := w) (base := base) F_is_ascending z_all z_zip
  have c_is_on_side := ok_is_on_side (P := P) (w := w) (base := base) F_is_on_side
  have c__law_feed := ok__law_feed (P := P) (w := w) (base := base) F__law_feed z_int z_len z_max z_sum
  have c__law_draw := ok__law_draw (P := P) (w := w) (base := base) F__law_draw z_int
  have c__law_point_sides := ok__law_point_sides (P := P) (w := w) (base := base) F__law_point_sides z_zip
  have c_is_within := ok_is_within (P := P) (w := w) (base := base) F_is_within c_is_integer
  have c_is_outer := ok_is_outer (P := P) (w := w) (base := base) F_is_outer c_is_on_side z_all z_any
  have c__law_one := ok__law_one (P := P) (w := w) (base := base) F__law_one c__law_draw z_len
  have c__law_some := ok__law_some (P := P) (w := w) (base := base) F__law_some c__law_draw z_tuple
  have c__law_is_outer := ok__law_is_outer (P := P) (w := w) (base := base) F__law_is_outer c__law_point_sides z_enumerate z_max z_min z_range
  have c__law_moved := ok__law_moved (P := P) (w := w) (base := base) F__law_moved c__law_draw z_abs z_max z_tuple
  have c_is_deed := ok_is_deed (P := P) (w := w) (base := base) F_is_deed c_is_within
  have c_outer_of := ok_outer_of (P := P) (w := w) (base := base) F_outer_of c_is_outer
  have c_is_point := ok_is_point (P := P) (w := w) (base := base) F_is_point c_is_row c_is_within z_all g_FAR
  have c__law_outer := ok__law_outer (P := P) (w := w) (base := base) F__law_outer c__law_is_outer
  have c__law_points := ok__law_points (P := P) (w := w) (base := base) F__law_points c__law_draw c__law_one z_range z_tuple
  have c_is_deeds := ok_is_deeds (P := P) (w := w) (base := base) F_is_deeds c_is_ascending c_is_deed c_is_row z_all
  have c_need_points := ok_need_points (P := P) (w := w) (base := base) F_need_points c_is_point c_is_row z_all z_len z_set g_MOST_POINTS
  have c_need_left := ok_need_left (P := P) (w := w) (base := base) F_need_left c_is_deeds z_len
  have c_outer_points := ok_outer_points (P := P) (w := w) (base := base) F_outer_points c_need_left c_need_points c_outer_of
  have c_law := ok_law (P := P) (w := w) (base := base) F_law c__law_draw c__law_feed c__law_moved c__law_outer c__law_points c__law_some c_outer_points z_isinstance z_len z_list z_max z_min z_range z_repr z_sorted z_tuple it_list it_tuple
  c_law
end Lw

end
section
namespace Lw
open PySem hiding Env
open Pv
theorem bop_addI (i j : Int) : bop .add (.int i) (.int j) = .ok (false, .int (i + j)) := rfl
theorem bop_subI (i j : Int) : bop .sub (.int i) (.int j) = .ok (false, .int (i - j)) := rfl
theorem bop_pow10 (n : Nat) (h : n ≤ 100) : bop .pow (.int 10) (.int (n : Int)) = .ok (false, .int (10 ^ n)) := by
  show (if 0 ≤ (n : Int) ∧ (n : Int) ≤ 1000000 ∧ (10 : Int).natAbs < 2 ^ 64 then Pv.plain _ else _) = _
  rw [if_pos ⟨by omega, by omega, by decide⟩]
  rfl
def Sm (a : Int) : Prop := -(2 ^ 64) < a ∧ a < 2 ^ 64
theorem bop_mulS {i j : Int} (h : Sm i) : bop .mul (.int i) (.int j) = .ok (false, .int (i * j)) := by
  show (if _ then Pv.plain _ else if _ then Pv.plain _ else _) = _
  split
  · rfl
  · rw [if_pos (.inl h)]
    rfl
theorem bop_mulS' {i j : Int} (h : Sm j) : bop .mul (.int i) (.int j) = .ok (false, .int (i * j)) := by
  show (if _ then Pv.plain _ else if _ then Pv.plain _ else _) = _
  split
  · rfl
  · rw [if_pos (.inr h)]
    rfl
abbrev Pt := Int × Int
def eP (p : Int × Int) : D := .tuple [.int p.1, .int p.2]
theorem subD_p0 (p : Pt) : subD (eP p) (.int 0) = .ok (.int p.1) := rfl
theorem subD_p1 (p : Pt) : subD (eP p) (.int 1) = .ok (.int p.2) := rfl
theorem bindT_eP (r : Pv.Env) (i j : Nat) (p : Pt) : bindT r (.tup [i, j]) (eP p) = .ok ((r.set i (some (false, .int p.1))).set j (some (false, .int p.2))) := rfl
theorem bindT_one (r : Pv.Env) (i : Nat) (d : D) : bindT r (.one i) d = .ok (r.set i (some (false, d))) := rfl
theorem isMut_eP (p : Pt) : isMut (eP p) = false := rfl
theorem eP_mk (a b : Int) : PyData.tuple [.int a, .int b] = eP (a, b) := rfl
/-! comprehensions, loops -/
theorem fold_lc {α : Type} {step : D → List D × Env → R (List D × Env)} {r : Env} {enc : α → D} {f : α → List D} : ∀ (l : List α) (acc : List D), (∀ x ∈ l, ∀ acc : List D, acc.length < SZ → step (enc x) (acc, r) = .ok (acc ++ f x, r)) → (∀ x, (f x).length ≤ 1) → acc.length + l.length ≤ SZ →
    foldR step (l.map enc) (acc, r) = .ok (acc ++ l.flatMap f, r)
  | [], acc, _, _, _ => by simp [foldR]
  | x :: l, acc, h, hf, hl => by
    rw [List.map_cons, foldR, h x List.mem_cons_self acc (by simp at hl; omega)]
    show foldR step (l.map enc) (acc ++ f x, r) = _
    rw [fold_lc l (acc ++ f x) (fun y hy => h y (List.mem_cons_of_mem _ hy)) hf (by have := hf x; simp at hl ⊢; omega)]
    simp
theorem back_wipe (own : List Nat) : ∀ (r : Pv.Env) (k : Nat), backF own k r (wipeF own k r) = r
  | [], _ => rfl
  | x :: r, k => by
    rw [wipeF, backF, back_wipe own r]
    split <;> rfl
theorem ev_lc {α : Type} {e : CE} {it : CI} {tg : Tg} {fs : CTs} {own : List Nat} {r r1 : Env} {l : List α} {enc : α → D} {f : α → List D} (hi : evI it r = .ok (l.map enc, r1)) (ok : ownOk own r1 = true)
    (hs : ∀ x ∈ l, ∀ acc : List D, acc.length < SZ → lcStep own (fun d r => bindT r tg d) (evTs fs) (evE e) (enc x) (acc, wipeE own r1) = .ok (acc ++ f x, wipeE own r1)) (hf : ∀ x, (f x).length ≤ 1) (hl : l.length ≤ SZ) :
    evE (.lc e it tg fs own) r = .ok (true, .list (l.flatMap f), r1) := by
  rw [evE, hi]
  show (if ownOk own r1 = true then _ else _) = _
  rw [if_pos ok]
  show (foldR _ (l.map enc) ([], wipeE own r1) >>= _) = _
  rw [fold_lc l [] hs hf (by simpa using hl)]
  show R.ok (true, PyData.list ([] ++ l.flatMap f), backF own 0 r1 (wipeF own 0 r1)) = _
  rw [back_wipe]
  rfl
theorem flatMap_map {α β : Type} (l : List α) (g : α → β) : l.flatMap (fun x => [g x]) = l.map g := by induction l <;> simp_all
theorem flatMap_filter {α β : Type} (l : List α) (p : α → Bool) (g : α → β) : l.flatMap (fun x => if p x then [g x] else []) = (l.filter p).map g := by
  induction l with
  | nil => rfl
  | cons x l ih => cases h : p x <;> simp_all
theorem boolsOf_map {α : Type} (l : List α) (p : α → Bool) : boolsOf? (l.map fun x => PyData.bool (p x)) = some (l.map p) := by
  induction l with
  | nil => rfl
  | cons x l ih => simp [boolsOf?, ih]
theorem intsOf_map {α : Type} (l : List α) (p : α → Int) : intsOf? (l.map fun x => PyData.int (p x)) = some (l.map p) := by
  induction l with
  | nil => rfl
  | cons x l ih => simp [intsOf?, ih]
theorem den_is_integer (i : Int) : f_is_integer.den [.int i] = .ok false (.bool true) [] := by
  simp [f_is_integer, k_is_integer, isT, tyName, mkFn, exSs, e_var, e_k, e_bin, e_un, e_land, e_lor, e_cmp, e_chain, e_ite, e_tst, e_tup, e_lst, e_sub, e_slc, e_call, e_bi, e_pop, e_isi, x_set, x_setT, x_par, x_put, x_aug, x_ifs, x_expr, x_app, x_raise, x_brk, x_cont, x_pass, x_retv, x_rete, evEs, evFs, evOs, evAs, evO, evT, evTs, evI, opnd, look, looks, slotD, share, ownD, isOwnL, bindT_one, Pv.setE, isMut, argFlags, slotsApart, argsIn, argIn, argsOut, permL, ioOp, outsOf, truthR, bop_addI, bop_subI, bop_pow10, cop, ordD, uop, bi, Pv.plain, Pv.fresh, subD_p0, subD_p1, bindT_eP, isMut_eP, R.ok_bind, itemsOf]
theorem io_is_integer : f_is_integer.io = [false] := rfl
theorem den_is_within (i a b : Int) : f_is_within.den [.int i, .int a, .int b] = .ok false (.bool (decide (a ≤ i) && decide (i ≤ b))) [] := by
  simp [f_is_within, k_is_within, mkFn, exSs, e_var, e_k, e_bin, e_un, e_land, e_lor, e_cmp, e_chain, e_ite, e_tst, e_tup, e_lst, e_sub, e_slc, e_call, e_bi, e_pop, e_isi, x_set, x_setT, x_par, x_put, x_aug, x_ifs, x_expr, x_app, x_raise, x_brk, x_cont, x_pass, x_retv, x_rete, evEs, evFs, evOs, evAs, evO, evT, evTs, evI, opnd, look, looks, slotD, share, ownD, isOwnL, bindT_one, Pv.setE, isMut, argFlags, slotsApart, argsIn, argIn, argsOut, permL, ioOp, outsOf, truthR, bop_addI, bop_subI, bop_pow10, cop, ordD, uop, bi, Pv.plain, Pv.fresh, subD_p0, subD_p1, bindT_eP, isMut_eP, R.ok_bind, itemsOf, io_is_integer, den_is_integer]
  by_cases h : a ≤ i <;> simp [h]
theorem io_is_within : f_is_within.io = [false, false, false] := rfl
theorem den_is_row (xs : List D) (a b : Int) : f_is_row.den [.tuple xs, .int a, .int b] = .ok false (.bool (decide (a ≤ xs.length) && decide ((xs.length : Int) ≤ b))) [] := by
  simp [f_is_row, k_is_row, mkFn, exSs, e_var, e_k, e_bin, e_un, e_land, e_lor, e_cmp, e_chain, e_ite, e_tst, e_tup, e_lst, e_sub, e_slc, e_call, e_bi, e_pop, e_isi, x_set, x_setT, x_par, x_put, x_aug, x_ifs, x_expr, x_app, x_raise, x_brk, x_cont, x_pass, x_retv, x_rete, evEs, evFs, evOs, evAs, evO, evT, evTs, evI, opnd, look, looks, slotD, share, ownD, isOwnL, bindT_one, Pv.setE, isMut, argFlags, slotsApart, argsIn, argIn, argsOut, permL, ioOp, outsOf, truthR, bop_addI, bop_subI, bop_pow10, cop, ordD, uop, bi, Pv.plain, Pv.fresh, subD_p0, subD_p1, bindT_eP, isMut_eP, R.ok_bind, itemsOf, isT, tyName]
  by_cases h : a ≤ xs.length <;> simp [h]
theorem io_is_row : f_is_row.io = [false, false, false] := rfl
theorem den_is_deed (i n : Int) : f_is_deed.den [.int i, .int n] = .ok false (.bool (decide (0 ≤ i) && decide (i ≤ n - 1))) [] := by
  simp [f_is_deed, k_is_deed, mkFn, exSs, e_var, e_k, e_bin, e_un, e_land, e_lor, e_cmp, e_chain, e_ite, e_tst, e_tup, e_lst, e_sub, e_slc, e_call, e_bi, e_pop, e_isi, x_set, x_setT, x_par, x_put, x_aug, x_ifs, x_expr, x_app, x_raise, x_brk, x_cont, x_pass, x_retv, x_rete, evEs, evFs, evOs, evAs, evO, evT, evTs, evI, opnd, look, looks, slotD, share, ownD, isOwnL, bindT_one, Pv.setE, isMut, argFlags, slotsApart, argsIn, argIn, argsOut, permL, ioOp, outsOf, truthR, bop_addI, bop_subI, bop_pow10, cop, ordD, uop, bi, Pv.plain, Pv.fresh, subD_p0, subD_p1, bindT_eP, isMut_eP, R.ok_bind, itemsOf, io_is_within, den_is_within]
theorem io_is_deed : f_is_deed.io = [false, false] := rfl

theorem cut_from1 (ds : List D) : cutD ds (some 1) none = ds.drop 1 := by
  unfold cutD
  rw [show HT.sIx ds.length 0 (some 1) = min 1 ds.length from HT.sIx_nat ds.length 0 1, HT.sIx_none]
  cases ds with
  | nil => rfl
  | cons d r =>
    rw [show min 1 (d :: r).length = 1 by rw [List.length_cons]; omega]
    show (r.take ((d :: r).length - 1)) = r
    rw [List.length_cons, Nat.add_sub_cancel, List.take_length]
theorem cut_to (ds : List D) (n : Nat) : cutD ds none (some (n : Int)) = ds.take n := by
  unfold cutD
  rw [HT.sIx_none, HT.sIx_nat, Nat.sub_zero, List.drop_zero]
  by_cases h : n ≤ ds.length
  · rw [Nat.min_eq_left h]
  · rw [Nat.min_eq_right (by omega), List.take_length, List.take_of_length_le (by omega)]
def eI (l : List Int) : List D := l.map PyData.int
theorem zip_next (l : List Int) : zipD (eI l) (eI l).tail = (l.zip l.tail).map eP := by
  unfold zipD eI eP
  rw [← List.map_tail, List.zip_map, List.map_map]
  rfl
def upI (l : List Int) : Bool := (l.zip l.tail).all fun p => decide (p.1 < p.2)
theorem den_is_ascending (l : List Int) (hl : l.length ≤ 1000) : f_is_ascending.den [.tuple (eI l)] = .ok false (.bool (upI l)) [] := by
  have h : evE (.lc (.cmp .lt (.var 1) (.var 2)) (.zip (.var 0) (.slc (.var 0) (.cons (.k (.int 1)) .nil) .nil)) (.tup [1, 2]) .nil [1, 2]) [some (false, .tuple (eI l)), none, none] = .ok (true, .list ((l.zip l.tail).flatMap fun p => [.bool (decide (p.1 < p.2))]), [some (false, .tuple (eI l)), none, none]) := by
    refine ev_lc (enc := eP) (r1 := [some (false, .tuple (eI l)), none, none]) ?_ (by simp [ownOk]) (fun x hx acc ha => ?_) (fun _ => Nat.le_refl 1) (by simp [SZ]; omega)
    · simp [mkFn, exSs, e_var, e_k, e_bin, e_un, e_land, e_lor, e_cmp, e_chain, e_ite, e_tst, e_tup, e_lst, e_sub, e_slc, e_call, e_bi, e_pop, e_isi, x_set, x_setT, x_par, x_put, x_aug, x_ifs, x_expr, x_app, x_raise, x_brk, x_cont, x_pass, x_retv, x_rete, evEs, evFs, evOs, evAs, evO, evT, evTs, evI, opnd, look, looks, slotD, share, ownD, isOwnL, bindT_one, Pv.setE, isMut, argFlags, slotsApart, argsIn, argIn, argsOut, permL, ioOp, outsOf, truthR, bop_addI, bop_subI, bop_pow10, cop, ordD, uop, bi, Pv.plain, Pv.fresh, subD_p0, subD_p1, bindT_eP, isMut_eP, R.ok_bind, itemsOf, slcD, cut_from1]
      rw [zip_next]
    · simp [lcStep, mkFn, exSs, e_var, e_k, e_bin, e_un, e_land, e_lor, e_cmp, e_chain, e_ite, e_tst, e_tup, e_lst, e_sub, e_slc, e_call, e_bi, e_pop, e_isi, x_set, x_setT, x_par, x_put, x_aug, x_ifs, x_expr, x_app, x_raise, x_brk, x_cont, x_pass, x_retv, x_rete, evEs, evFs, evOs, evAs, evO, evT, evTs, evI, opnd, look, looks, slotD, share, ownD, isOwnL, bindT_one, Pv.setE, isMut, argFlags, slotsApart, argsIn, argIn, argsOut, permL, ioOp, outsOf, truthR, bop_addI, bop_subI, bop_pow10, cop, ordD, uop, bi, Pv.plain, Pv.fresh, subD_p0, subD_p1, bindT_eP, isMut_eP, R.ok_bind, itemsOf, ha, wipeE, wipeF]
  simp [f_is_ascending, k_is_ascending, mkFn, exSs, e_var, e_k, e_bin, e_un, e_land, e_lor, e_cmp, e_chain, e_ite, e_tst, e_tup, e_lst, e_sub, e_slc, e_call, e_bi, e_pop, e_isi, x_set, x_setT, x_par, x_put, x_aug, x_ifs, x_expr, x_app, x_raise, x_brk, x_cont, x_pass, x_retv, x_rete, evEs, evFs, evOs, evAs, evO, evT, evTs, evI, opnd, look, looks, slotD, share, ownD, isOwnL, bindT_one, Pv.setE, isMut, argFlags, slotsApart, argsIn, argIn, argsOut, permL, ioOp, outsOf, truthR, bop_addI, bop_subI, bop_pow10, cop, ordD, uop, bi, Pv.plain, Pv.fresh, subD_p0, subD_p1, bindT_eP, isMut_eP, R.ok_bind, itemsOf, h, flatMap_map, boolsOf_map]
  simp [upI]
theorem io_is_ascending : f_is_ascending.io = [false] := rfl
theorem shaped_ints (l : List Int) : SeqAt.shaped (.list (eI l)) = true ∧ SeqAt.shaped (.tuple (eI l)) = true := by
  have h1 : PyData.canLayAll0 (eI l) = true := by
    unfold eI
    induction l with
    | nil => rfl
    | cons i l ih => simp [PyData.canLayAll0, PyData.canLay0, ih]
  have h2 : PyData.depthAll (eI l) = 0 := PySem.W.depth_ints l
  simp [SeqAt.shaped, PyData.canLay0, PyData.depth, h1, h2]
theorem shaped_int (i : Int) : SeqAt.shaped (.int i) = true := by simp [SeqAt.shaped, PyData.canLay0, PyData.depth]
theorem depth_pts (l : List (Int × Int)) : PyData.depthAll (l.map eP) ≤ 1 := by
  induction l with
  | nil => simp [PyData.depthAll]
  | cons i l ih =>
    have : (eP i).depth = 1 := by simp [eP, PyData.depth, PyData.depthAll]
    rw [List.map_cons, PyData.depthAll]
    omega
theorem lay_pts (l : List (Int × Int)) : PyData.canLayAll0 (l.map eP) = true := by
  induction l with
  | nil => rfl
  | cons i l ih => simp [PyData.canLayAll0, PyData.canLay0, eP, ih]
theorem shaped_pts (l : List (Int × Int)) : SeqAt.shaped (.list (l.map eP)) = true ∧ SeqAt.shaped (.tuple (l.map eP)) = true := by
  have h2 := depth_pts l
  simp [SeqAt.shaped, PyData.canLay0, PyData.depth, lay_pts]
  omega
theorem shaped_pt (p : Int × Int) : SeqAt.shaped (eP p) = true := by simp [SeqAt.shaped, PyData.canLay0, PyData.canLayAll0, PyData.depth, PyData.depthAll, eP]
theorem shaped_nil : SeqAt.shaped (.list []) = true ∧ SeqAt.shaped (.tuple []) = true := by decide
theorem eqv_nilL (xs : List D) : PyData.eqv (.list xs) (.list []) = xs.isEmpty := by cases xs <;> simp [PyData.eqv, PyData.eqvAll]
theorem eqv_nilT (xs : List D) : PyData.eqv (.tuple xs) (.tuple []) = xs.isEmpty := by cases xs <;> simp [PyData.eqv, PyData.eqvAll]
theorem eqvAll_ints : ∀ l m : List Int, PyData.eqvAll (eI l) (eI m) = decide (l = m)
  | [], [] => by simp [eI, PyData.eqvAll]
  | [], _ :: _ => by simp [eI, PyData.eqvAll]
  | _ :: _, [] => by simp [eI, PyData.eqvAll]
  | i :: l, j :: m => by
    have := eqvAll_ints l m
    unfold eI at this ⊢
    rw [List.map_cons, List.map_cons, PyData.eqvAll, this, PyData.eqv]
    rw [Bool.eq_iff_iff]
    simp
theorem eqv_ints (l m : List Int) : PyData.eqv (.list (eI l)) (.list (eI m)) = decide (l = m) := by rw [PyData.eqv, eqvAll_ints]
theorem eqv_pt (p q : Int × Int) : PyData.eqv (eP p) (eP q) = decide (p = q) := by
  obtain ⟨a, b⟩ := p
  obtain ⟨c, d⟩ := q
  rw [Bool.eq_iff_iff]
  simp [eP, PyData.eqv, PyData.eqvAll]
theorem eqv_int (i j : Int) : PyData.eqv (.int i) (.int j) = decide (i = j) := by rw [Bool.eq_iff_iff]; simp [PyData.eqv]
def okLeft (l : List Int) (n : Int) : Bool := decide ((l.length : Int) ≤ n) && (l.all (fun i => decide (0 ≤ i) && decide (i ≤ n - 1)) && upI l)
theorem den_is_deeds (l : List Int) (n : Int) (hl : l.length ≤ 1000) : f_is_deeds.den [.tuple (eI l), .int n] = .ok false (.bool (okLeft l n)) [] := by
  have h : evE (.lc (.call f_is_deed "is_deed" (.cons (.var 2) (.cons (.var 1) .nil)) []) (.seq (.var 0)) (.one 2) .nil [2]) [some (false, .tuple (eI l)), some (false, .int n), none] = .ok (true, .list (l.flatMap fun i => [.bool (decide (0 ≤ i) && decide (i ≤ n - 1))]), [some (false, .tuple (eI l)), some (false, .int n), none]) := by
    refine ev_lc (enc := PyData.int) (r1 := [some (false, .tuple (eI l)), some (false, .int n), none]) (by simp [mkFn, exSs, e_var, e_k, e_bin, e_un, e_land, e_lor, e_cmp, e_chain, e_ite, e_tst, e_tup, e_lst, e_sub, e_slc, e_call, e_bi, e_pop, e_isi, x_set, x_setT, x_par, x_put, x_aug, x_ifs, x_expr, x_app, x_raise, x_brk, x_cont, x_pass, x_retv, x_rete, evEs, evFs, evOs, evAs, evO, evT, evTs, evI, opnd, look, looks, slotD, share, ownD, isOwnL, bindT_one, Pv.setE, isMut, argFlags, slotsApart, argsIn, argIn, argsOut, permL, ioOp, outsOf, truthR, bop_addI, bop_subI, bop_pow10, cop, ordD, uop, bi, Pv.plain, Pv.fresh, subD_p0, subD_p1, bindT_eP, isMut_eP, R.ok_bind, itemsOf, eI]) (by simp [ownOk]) (fun x hx acc ha => ?_) (fun _ => Nat.le_refl 1) (by simp [SZ]; omega)
    simp [lcStep, mkFn, exSs, e_var, e_k, e_bin, e_un, e_land, e_lor, e_cmp, e_chain, e_ite, e_tst, e_tup, e_lst, e_sub, e_slc, e_call, e_bi, e_pop, e_isi, x_set, x_setT, x_par, x_put, x_aug, x_ifs, x_expr, x_app, x_raise, x_brk, x_cont, x_pass, x_retv, x_rete, evEs, evFs, evOs, evAs, evO, evT, evTs, evI, opnd, look, looks, slotD, share, ownD, isOwnL, bindT_one, Pv.setE, isMut, argFlags, slotsApart, argsIn, argIn, argsOut, permL, ioOp, outsOf, truthR, bop_addI, bop_subI, bop_pow10, cop, ordD, uop, bi, Pv.plain, Pv.fresh, subD_p0, subD_p1, bindT_eP, isMut_eP, R.ok_bind, itemsOf, ha, wipeE, wipeF, io_is_deed, den_is_deed]
  simp [f_is_deeds, k_is_deeds, mkFn, exSs, e_var, e_k, e_bin, e_un, e_land, e_lor, e_cmp, e_chain, e_ite, e_tst, e_tup, e_lst, e_sub, e_slc, e_call, e_bi, e_pop, e_isi, x_set, x_setT, x_par, x_put, x_aug, x_ifs, x_expr, x_app, x_raise, x_brk, x_cont, x_pass, x_retv, x_rete, evEs, evFs, evOs, evAs, evO, evT, evTs, evI, opnd, look, looks, slotD, share, ownD, isOwnL, bindT_one, Pv.setE, isMut, argFlags, slotsApart, argsIn, argIn, argsOut, permL, ioOp, outsOf, truthR, bop_addI, bop_subI, bop_pow10, cop, ordD, uop, bi, Pv.plain, Pv.fresh, subD_p0, subD_p1, bindT_eP, isMut_eP, R.ok_bind, itemsOf, io_is_row, den_is_row, io_is_ascending, den_is_ascending l hl, h, flatMap_map, boolsOf_map]
  unfold okLeft
  by_cases h1 : (l.length : Int) ≤ n
  · have e : ((eI l).length : Int) ≤ n := by simpa [eI] using h1
    simp [eI, h1, mkFn, exSs, e_var, e_k, e_bin, e_un, e_land, e_lor, e_cmp, e_chain, e_ite, e_tst, e_tup, e_lst, e_sub, e_slc, e_call, e_bi, e_pop, e_isi, x_set, x_setT, x_par, x_put, x_aug, x_ifs, x_expr, x_app, x_raise, x_brk, x_cont, x_pass, x_retv, x_rete, evEs, evFs, evOs, evAs, evO, evT, evTs, evI, opnd, look, looks, slotD, share, ownD, isOwnL, bindT_one, Pv.setE, isMut, argFlags, slotsApart, argsIn, argIn, argsOut, permL, ioOp, outsOf, truthR, bop_addI, bop_subI, bop_pow10, cop, ordD, uop, bi, Pv.plain, Pv.fresh, subD_p0, subD_p1, bindT_eP, isMut_eP, R.ok_bind, itemsOf, List.all_map, Function.comp_def]
    by_cases h2 : ∀ x ∈ l, 0 ≤ x ∧ x ≤ n - 1
    · have h3 : (l.all fun x => decide (0 ≤ x) && decide (x ≤ n - 1)) = true := by simpa using h2
      rw [if_pos h2, h3]
      simp
    · have h3 : (l.all fun x => decide (0 ≤ x) && decide (x ≤ n - 1)) = false := by simpa using h2
      rw [if_neg h2, h3]
      simp
  · simp [eI, h1]
theorem io_is_deeds : f_is_deeds.io = [false, false] := rfl
/-! points -/
def sub2 (p q : Pt) : Pt := (p.1 - q.1, p.2 - q.2)
def cr (u v : Pt) : Int := u.1 * v.2 - u.2 * v.1
def dt (u v : Pt) : Int := u.1 * v.1 + u.2 * v.2
def side (u v : Pt) : Bool := decide (0 < cr u v) || (decide (cr u v = 0) && decide (0 < dt u v))
def Sm2 (u : Pt) : Prop := Sm u.1 ∧ Sm u.2
theorem den_is_on_side (u v : Pt) (h : Sm2 u) : f_is_on_side.den [eP u, eP v] = .ok false (.bool (side u v)) [] := by
  simp [f_is_on_side, k_is_on_side, mkFn, exSs, e_var, e_k, e_bin, e_un, e_land, e_lor, e_cmp, e_chain, e_ite, e_tst, e_tup, e_lst, e_sub, e_slc, e_call, e_bi, e_pop, e_isi, x_set, x_setT, x_par, x_put, x_aug, x_ifs, x_expr, x_app, x_raise, x_brk, x_cont, x_pass, x_retv, x_rete, evEs, evFs, evOs, evAs, evO, evT, evTs, evI, opnd, look, looks, slotD, share, ownD, isOwnL, bindT_one, Pv.setE, isMut, argFlags, slotsApart, argsIn, argIn, argsOut, permL, ioOp, outsOf, truthR, bop_addI, bop_subI, bop_pow10, cop, ordD, uop, bi, Pv.plain, Pv.fresh, subD_p0, subD_p1, bindT_eP, isMut_eP, R.ok_bind, itemsOf, bop_mulS h.1, bop_mulS h.2, shaped_int, eqv_int]
  unfold side cr dt
  by_cases h1 : u.2 * v.1 < u.1 * v.2
  · simp [h1]
  · by_cases h2 : u.1 * v.2 - u.2 * v.1 = 0
    · simp [h1, h2]
    · simp [h1, h2]
theorem io_is_on_side : f_is_on_side.io = [false, false] := rfl
def at_ (ps : List Pt) (i : Int) : Pt := ps.getD i.toNat (0, 0)
theorem sub_at {ps : List Pt} {i : Int} (h : 0 ≤ i ∧ i < ps.length) : ((ixD (ps.map eP).length i).bind ((ps.map eP)[·]?)) = some (eP (at_ ps i)) := by
  unfold ixD at_
  rw [if_pos h.1, if_pos (by simpa using h.2)]
  have hi : i.toNat < ps.length := by omega
  simp [List.getElem?_eq_getElem hi]
theorem subD_at {ps : List Pt} {i : Int} (h : 0 ≤ i ∧ i < ps.length) : subD (.tuple (ps.map eP)) (.int i) = .ok (eP (at_ ps i)) := by
  show (match (ixD (ps.map eP).length i).bind ((ps.map eP)[·]?) with | some d => R.ok d | none => .bad) = _
  rw [sub_at h]
def ways (ps : List Pt) (i : Int) (l : List Int) : List Pt := (l.filter (fun j => decide (j ≠ i))).map fun j => sub2 (at_ ps j) (at_ ps i)
def outB (ws : List Pt) : Bool := ws.isEmpty || ws.any fun o => ws.all fun w => side o w
theorem eI_map (l : List Int) : eI l = l.map PyData.int := rfl
theorem ways_mem {ps : List Pt} {i : Int} {l : List Int} {w : Pt} (h : w ∈ ways ps i l) : ∃ j ∈ l, j ≠ i ∧ w = sub2 (at_ ps j) (at_ ps i) := by
  unfold ways at h
  obtain ⟨j, h1, rfl⟩ := List.mem_map.mp h
  rw [List.mem_filter] at h1
  exact ⟨j, h1.1, by simpa using h1.2, rfl⟩
/-- points not far away -/
def Near (ps : List Pt) : Prop := ∀ p ∈ ps, (-1000 ≤ p.1 ∧ p.1 ≤ 1000) ∧ (-1000 ≤ p.2 ∧ p.2 ≤ 1000)
theorem near_at {ps : List Pt} (h : Near ps) {i : Int} (hi : 0 ≤ i ∧ i < ps.length) : (-1000 ≤ (at_ ps i).1 ∧ (at_ ps i).1 ≤ 1000) ∧ (-1000 ≤ (at_ ps i).2 ∧ (at_ ps i).2 ≤ 1000) := by
  refine h _ ?_
  unfold at_
  have : i.toNat < ps.length := by omega
  rw [List.getD_eq_getElem?_getD, List.getElem?_eq_getElem this]
  exact List.getElem_mem this
theorem ways_sm {ps : List Pt} (h : Near ps) {i : Int} {l : List Int} (hi : 0 ≤ i ∧ i < ps.length) (hl : ∀ j ∈ l, 0 ≤ j ∧ j < ps.length) {w : Pt} (hw : w ∈ ways ps i l) : Sm2 w := by
  obtain ⟨j, h1, _, rfl⟩ := ways_mem hw
  have a := near_at h hi
  have b := near_at h (hl j h1)
  unfold Sm2 Sm sub2
  refine ⟨⟨?_, ?_⟩, ?_, ?_⟩ <;> simp only <;> omega
theorem den_is_outer (ps : List Pt) (i : Int) (l : List Int) (hn : Near ps) (hi : 0 ≤ i ∧ i < ps.length) (hl : ∀ j ∈ l, 0 ≤ j ∧ j < ps.length) (hz : l.length ≤ 1000) :
    f_is_outer.den [.tuple (ps.map eP), .int i, .tuple (eI l)] = .ok false (.bool (outB (ways ps i l))) [] := by
  have sm := fun w hw => ways_sm hn (i := i) (l := l) hi hl (w := w) hw
  have wl : (ways ps i l).length ≤ 1000 := by
    unfold ways
    rw [List.length_map]
    exact Nat.le_trans (List.length_filter_le _ _) hz
  generalize hr : ([some (false, PyData.tuple (ps.map eP)), some (false, .int i), some (false, .tuple (eI l)), some (false, .int (at_ ps i).1), some (false, .int (at_ ps i).2), none, none, none] : Env) = r1
  have h1 : evE (.lc (.tup (.cons (.bin .sub (.sub (.sub (.var 0) (.var 6)) (.k (.int 0))) (.var 3)) (.cons (.bin .sub (.sub (.sub (.var 0) (.var 6)) (.k (.int 1))) (.var 4)) .nil))) (.seq (.var 2)) (.one 6) (.cons (.val (.cmp .ne (.var 6) (.var 1))) .nil) [6]) r1 = .ok (true, .list ((ways ps i l).map eP), r1) := by
    subst hr
    refine (ev_lc (enc := PyData.int) (l := l) (f := fun j => if decide (j ≠ i) then [eP (sub2 (at_ ps j) (at_ ps i))] else []) (r1 := [some (false, PyData.tuple (ps.map eP)), some (false, .int i), some (false, .tuple (eI l)), some (false, .int (at_ ps i).1), some (false, .int (at_ ps i).2), none, none, none]) (by simp [mkFn, exSs, e_var, e_k, e_bin, e_un, e_land, e_lor, e_cmp, e_chain, e_ite, e_tst, e_tup, e_lst, e_sub, e_slc, e_call, e_bi, e_pop, e_isi, x_set, x_setT, x_par, x_put, x_aug, x_ifs, x_expr, x_app, x_raise, x_brk, x_cont, x_pass, x_retv, x_rete, evEs, evFs, evOs, evAs, evO, evT, evTs, evI, opnd, look, looks, slotD, share, ownD, isOwnL, bindT_one, Pv.setE, isMut, argFlags, slotsApart, argsIn, argIn, argsOut, permL, ioOp, outsOf, truthR, bop_addI, bop_subI, bop_pow10, cop, ordD, uop, bi, Pv.plain, Pv.fresh, subD_p0, subD_p1, bindT_eP, isMut_eP, R.ok_bind, itemsOf, eI]) (by simp [ownOk]) (fun x hx acc ha => ?_) (fun _ => by split <;> simp) (by simp [SZ]; omega)).trans ?_
    · by_cases hxi : x = i
      · subst hxi
        simp [lcStep, mkFn, exSs, e_var, e_k, e_bin, e_un, e_land, e_lor, e_cmp, e_chain, e_ite, e_tst, e_tup, e_lst, e_sub, e_slc, e_call, e_bi, e_pop, e_isi, x_set, x_setT, x_par, x_put, x_aug, x_ifs, x_expr, x_app, x_raise, x_brk, x_cont, x_pass, x_retv, x_rete, evEs, evFs, evOs, evAs, evO, evT, evTs, evI, opnd, look, looks, slotD, share, ownD, isOwnL, bindT_one, Pv.setE, isMut, argFlags, slotsApart, argsIn, argIn, argsOut, permL, ioOp, outsOf, truthR, bop_addI, bop_subI, bop_pow10, cop, ordD, uop, bi, Pv.plain, Pv.fresh, subD_p0, subD_p1, bindT_eP, isMut_eP, R.ok_bind, itemsOf, wipeE, wipeF, shaped_int, eqv_int]
      · simp [lcStep, mkFn, exSs, e_var, e_k, e_bin, e_un, e_land, e_lor, e_cmp, e_chain, e_ite, e_tst, e_tup, e_lst, e_sub, e_slc, e_call, e_bi, e_pop, e_isi, x_set, x_setT, x_par, x_put, x_aug, x_ifs, x_expr, x_app, x_raise, x_brk, x_cont, x_pass, x_retv, x_rete, evEs, evFs, evOs, evAs, evO, evT, evTs, evI, opnd, look, looks, slotD, share, ownD, isOwnL, bindT_one, Pv.setE, isMut, argFlags, slotsApart, argsIn, argIn, argsOut, permL, ioOp, outsOf, truthR, bop_addI, bop_subI, bop_pow10, cop, ordD, uop, bi, Pv.plain, Pv.fresh, subD_p0, subD_p1, bindT_eP, isMut_eP, R.ok_bind, itemsOf, ha, wipeE, wipeF, shaped_int, eqv_int, hxi, sub2, subD_at (hl x hx), eP_mk]
    · rw [flatMap_filter]
      simp [ways, List.map_map, Function.comp_def]
  subst hr
  generalize hw : ways ps i l = ws at *
  have h2 : ∀ o ∈ ws, evE (.lc (.call f_is_on_side "is_on_side" (.cons (.var 7) (.cons (.var 6) .nil)) []) (.seq (.var 5)) (.one 6) .nil [6]) [some (false, PyData.tuple (ps.map eP)), some (false, .int i), some (false, .tuple (eI l)), some (false, .int (at_ ps i).1), some (false, .int (at_ ps i).2), some (false, .list (ws.map eP)), none, some (false, eP o)] = .ok (true, .list (ws.flatMap fun w => [.bool (side o w)]), [some (false, PyData.tuple (ps.map eP)), some (false, .int i), some (false, .tuple (eI l)), some (false, .int (at_ ps i).1), some (false, .int (at_ ps i).2), some (false, .list (ws.map eP)), none, some (false, eP o)]) := fun o ho => by
    refine ev_lc (enc := eP) (l := ws) (by simp [mkFn, exSs, e_var, e_k, e_bin, e_un, e_land, e_lor, e_cmp, e_chain, e_ite, e_tst, e_tup, e_lst, e_sub, e_slc, e_call, e_bi, e_pop, e_isi, x_set, x_setT, x_par, x_put, x_aug, x_ifs, x_expr, x_app, x_raise, x_brk, x_cont, x_pass, x_retv, x_rete, evEs, evFs, evOs, evAs, evO, evT, evTs, evI, opnd, look, looks, slotD, share, ownD, isOwnL, bindT_one, Pv.setE, isMut, argFlags, slotsApart, argsIn, argIn, argsOut, permL, ioOp, outsOf, truthR, bop_addI, bop_subI, bop_pow10, cop, ordD, uop, bi, Pv.plain, Pv.fresh, subD_p0, subD_p1, bindT_eP, isMut_eP, R.ok_bind, itemsOf]) (by simp [ownOk]) (fun x hx acc ha => ?_) (fun _ => Nat.le_refl 1) (by simp [SZ]; omega)
    simp [lcStep, mkFn, exSs, e_var, e_k, e_bin, e_un, e_land, e_lor, e_cmp, e_chain, e_ite, e_tst, e_tup, e_lst, e_sub, e_slc, e_call, e_bi, e_pop, e_isi, x_set, x_setT, x_par, x_put, x_aug, x_ifs, x_expr, x_app, x_raise, x_brk, x_cont, x_pass, x_retv, x_rete, evEs, evFs, evOs, evAs, evO, evT, evTs, evI, opnd, look, looks, slotD, share, ownD, isOwnL, bindT_one, Pv.setE, isMut, argFlags, slotsApart, argsIn, argIn, argsOut, permL, ioOp, outsOf, truthR, bop_addI, bop_subI, bop_pow10, cop, ordD, uop, bi, Pv.plain, Pv.fresh, subD_p0, subD_p1, bindT_eP, isMut_eP, R.ok_bind, itemsOf, ha, wipeE, wipeF, io_is_on_side, den_is_on_side o x (sm o ho)]
  have h3 : evE (.lc (.bi .all (.cons (.lc (.call f_is_on_side "is_on_side" (.cons (.var 7) (.cons (.var 6) .nil)) []) (.seq (.var 5)) (.one 6) .nil [6]) .nil)) (.seq (.var 5)) (.one 7) .nil [7]) [some (false, PyData.tuple (ps.map eP)), some (false, .int i), some (false, .tuple (eI l)), some (false, .int (at_ ps i).1), some (false, .int (at_ ps i).2), some (true, .list (ws.map eP)), none, none] = .ok (true, .list (ws.flatMap fun o => [.bool (ws.all fun w => side o w)]), [some (false, PyData.tuple (ps.map eP)), some (false, .int i), some (false, .tuple (eI l)), some (false, .int (at_ ps i).1), some (false, .int (at_ ps i).2), some (false, .list (ws.map eP)), none, none]) := by
    refine ev_lc (enc := eP) (l := ws) (by simp [mkFn, exSs, e_var, e_k, e_bin, e_un, e_land, e_lor, e_cmp, e_chain, e_ite, e_tst, e_tup, e_lst, e_sub, e_slc, e_call, e_bi, e_pop, e_isi, x_set, x_setT, x_par, x_put, x_aug, x_ifs, x_expr, x_app, x_raise, x_brk, x_cont, x_pass, x_retv, x_rete, evEs, evFs, evOs, evAs, evO, evT, evTs, evI, opnd, look, looks, slotD, share, ownD, isOwnL, bindT_one, Pv.setE, isMut, argFlags, slotsApart, argsIn, argIn, argsOut, permL, ioOp, outsOf, truthR, bop_addI, bop_subI, bop_pow10, cop, ordD, uop, bi, Pv.plain, Pv.fresh, subD_p0, subD_p1, bindT_eP, isMut_eP, R.ok_bind, itemsOf]) (by simp [ownOk]) (fun x hx acc ha => ?_) (fun _ => Nat.le_refl 1) (by simp [SZ]; omega)
    simp [lcStep, mkFn, exSs, e_var, e_k, e_bin, e_un, e_land, e_lor, e_cmp, e_chain, e_ite, e_tst, e_tup, e_lst, e_sub, e_slc, e_call, e_bi, e_pop, e_isi, x_set, x_setT, x_par, x_put, x_aug, x_ifs, x_expr, x_app, x_raise, x_brk, x_cont, x_pass, x_retv, x_rete, evEs, evFs, evOs, evAs, evO, evT, evTs, evI, opnd, look, looks, slotD, share, ownD, isOwnL, bindT_one, Pv.setE, isMut, argFlags, slotsApart, argsIn, argIn, argsOut, permL, ioOp, outsOf, truthR, bop_addI, bop_subI, bop_pow10, cop, ordD, uop, bi, Pv.plain, Pv.fresh, subD_p0, subD_p1, bindT_eP, isMut_eP, R.ok_bind, itemsOf, ha, wipeE, wipeF, h2 x hx, flatMap_map, boolsOf_map]
  simp [f_is_outer, k_is_outer, mkFn, exSs, e_var, e_k, e_bin, e_un, e_land, e_lor, e_cmp, e_chain, e_ite, e_tst, e_tup, e_lst, e_sub, e_slc, e_call, e_bi, e_pop, e_isi, x_set, x_setT, x_par, x_put, x_aug, x_ifs, x_expr, x_app, x_raise, x_brk, x_cont, x_pass, x_retv, x_rete, evEs, evFs, evOs, evAs, evO, evT, evTs, evI, opnd, look, looks, slotD, share, ownD, isOwnL, bindT_one, Pv.setE, isMut, argFlags, slotsApart, argsIn, argIn, argsOut, permL, ioOp, outsOf, truthR, bop_addI, bop_subI, bop_pow10, cop, ordD, uop, bi, Pv.plain, Pv.fresh, subD_p0, subD_p1, bindT_eP, isMut_eP, R.ok_bind, itemsOf, subD_at hi, h1, h3, shaped_pts, shaped_nil, eqv_nilL, flatMap_map, boolsOf_map]
  unfold outB
  cases ws with
  | nil => simp
  | cons w ws => simp
end Lw

end
section
namespace Lw
open PySem hiding Env
open Pv
theorem io_is_outer : f_is_outer.io = [false, false, false] := rfl
def outs (ps : List Pt) (l : List Int) : List Int := l.filter fun i => outB (ways ps i l)
theorem den_outer_of (ps : List Pt) (l : List Int) (hn : Near ps) (hl : ∀ j ∈ l, 0 ≤ j ∧ j < ps.length) (hz : l.length ≤ 1000) :
    f_outer_of.den [.tuple (ps.map eP), .tuple (eI l)] = .ok true (.list (eI (outs ps l))) [] := by
  have h : evE (.lc (.var 2) (.seq (.var 1)) (.one 2) (.cons (.val (.call f_is_outer "is_outer" (.cons (.var 0) (.cons (.var 2) (.cons (.var 1) .nil))) [])) .nil) [2]) [some (false, PyData.tuple (ps.map eP)), some (false, .tuple (eI l)), none] = .ok (true, .list (l.flatMap fun i => if outB (ways ps i l) then [.int i] else []), [some (false, PyData.tuple (ps.map eP)), some (false, .tuple (eI l)), none]) := by
    refine ev_lc (enc := PyData.int) (l := l) (by simp [mkFn, exSs, e_var, e_k, e_bin, e_un, e_land, e_lor, e_cmp, e_chain, e_ite, e_tst, e_tup, e_lst, e_sub, e_slc, e_call, e_bi, e_pop, e_isi, x_set, x_setT, x_par, x_put, x_aug, x_ifs, x_expr, x_app, x_raise, x_brk, x_cont, x_pass, x_retv, x_rete, evEs, evFs, evOs, evAs, evO, evT, evTs, evI, opnd, look, looks, slotD, share, ownD, isOwnL, bindT_one, Pv.setE, isMut, argFlags, slotsApart, argsIn, argIn, argsOut, permL, ioOp, outsOf, truthR, bop_addI, bop_subI, bop_pow10, cop, ordD, uop, bi, Pv.plain, Pv.fresh, subD_p0, subD_p1, bindT_eP, isMut_eP, R.ok_bind, itemsOf, eI]) (by simp [ownOk]) (fun x hx acc ha => ?_) (fun _ => by split <;> simp) (by simp [SZ]; omega)
    cases hb : outB (ways ps x l) <;> simp [lcStep, mkFn, exSs, e_var, e_k, e_bin, e_un, e_land, e_lor, e_cmp, e_chain, e_ite, e_tst, e_tup, e_lst, e_sub, e_slc, e_call, e_bi, e_pop, e_isi, x_set, x_setT, x_par, x_put, x_aug, x_ifs, x_expr, x_app, x_raise, x_brk, x_cont, x_pass, x_retv, x_rete, evEs, evFs, evOs, evAs, evO, evT, evTs, evI, opnd, look, looks, slotD, share, ownD, isOwnL, bindT_one, Pv.setE, isMut, argFlags, slotsApart, argsIn, argIn, argsOut, permL, ioOp, outsOf, truthR, bop_addI, bop_subI, bop_pow10, cop, ordD, uop, bi, Pv.plain, Pv.fresh, subD_p0, subD_p1, bindT_eP, isMut_eP, R.ok_bind, itemsOf, ha, wipeE, wipeF, io_is_outer, den_is_outer ps x l hn (hl x hx) hl hz, hb]
  simp [f_outer_of, k_outer_of, mkFn, exSs, e_var, e_k, e_bin, e_un, e_land, e_lor, e_cmp, e_chain, e_ite, e_tst, e_tup, e_lst, e_sub, e_slc, e_call, e_bi, e_pop, e_isi, x_set, x_setT, x_par, x_put, x_aug, x_ifs, x_expr, x_app, x_raise, x_brk, x_cont, x_pass, x_retv, x_rete, evEs, evFs, evOs, evAs, evO, evT, evTs, evI, opnd, look, looks, slotD, share, ownD, isOwnL, bindT_one, Pv.setE, isMut, argFlags, slotsApart, argsIn, argIn, argsOut, permL, ioOp, outsOf, truthR, bop_addI, bop_subI, bop_pow10, cop, ordD, uop, bi, Pv.plain, Pv.fresh, subD_p0, subD_p1, bindT_eP, isMut_eP, R.ok_bind, itemsOf, h, flatMap_filter, outs]
  rfl
theorem io_outer_of : f_outer_of.io = [false, false] := rfl
theorem den_is_point (p : Pt) : f_is_point.den [eP p] = .ok false (.bool ((decide (-1000 ≤ p.1) && decide (p.1 ≤ 1000)) && (decide (-1000 ≤ p.2) && decide (p.2 ≤ 1000)))) [] := by
  have h : evE (.lc (.call f_is_within "is_within" (.cons (.var 1) (.cons (.un .neg (.k (.int 1000))) (.cons (.k (.int 1000)) .nil))) []) (.seq (.var 0)) (.one 1) .nil [1]) [some (false, eP p), none] = .ok (true, .list ([p.1, p.2].flatMap fun i => [.bool (decide (-1000 ≤ i) && decide (i ≤ 1000))]), [some (false, eP p), none]) := by
    refine ev_lc (enc := PyData.int) (by simp [mkFn, exSs, e_var, e_k, e_bin, e_un, e_land, e_lor, e_cmp, e_chain, e_ite, e_tst, e_tup, e_lst, e_sub, e_slc, e_call, e_bi, e_pop, e_isi, x_set, x_setT, x_par, x_put, x_aug, x_ifs, x_expr, x_app, x_raise, x_brk, x_cont, x_pass, x_retv, x_rete, evEs, evFs, evOs, evAs, evO, evT, evTs, evI, opnd, look, looks, slotD, share, ownD, isOwnL, bindT_one, Pv.setE, isMut, argFlags, slotsApart, argsIn, argIn, argsOut, permL, ioOp, outsOf, truthR, bop_addI, bop_subI, bop_pow10, cop, ordD, uop, bi, Pv.plain, Pv.fresh, subD_p0, subD_p1, bindT_eP, isMut_eP, R.ok_bind, itemsOf, eP]) (by simp [ownOk]) (fun x hx acc ha => ?_) (fun _ => Nat.le_refl 1) (by simp [SZ])
    simp [lcStep, mkFn, exSs, e_var, e_k, e_bin, e_un, e_land, e_lor, e_cmp, e_chain, e_ite, e_tst, e_tup, e_lst, e_sub, e_slc, e_call, e_bi, e_pop, e_isi, x_set, x_setT, x_par, x_put, x_aug, x_ifs, x_expr, x_app, x_raise, x_brk, x_cont, x_pass, x_retv, x_rete, evEs, evFs, evOs, evAs, evO, evT, evTs, evI, opnd, look, looks, slotD, share, ownD, isOwnL, bindT_one, Pv.setE, isMut, argFlags, slotsApart, argsIn, argIn, argsOut, permL, ioOp, outsOf, truthR, bop_addI, bop_subI, bop_pow10, cop, ordD, uop, bi, Pv.plain, Pv.fresh, subD_p0, subD_p1, bindT_eP, isMut_eP, R.ok_bind, itemsOf, ha, wipeE, wipeF, io_is_within, den_is_within]
  have h2 : f_is_row.den [eP p, .int 2, .int 2] = .ok false (.bool true) [] := (den_is_row _ 2 2).trans (by simp)
  simp [f_is_point, k_is_point, mkFn, exSs, e_var, e_k, e_bin, e_un, e_land, e_lor, e_cmp, e_chain, e_ite, e_tst, e_tup, e_lst, e_sub, e_slc, e_call, e_bi, e_pop, e_isi, x_set, x_setT, x_par, x_put, x_aug, x_ifs, x_expr, x_app, x_raise, x_brk, x_cont, x_pass, x_retv, x_rete, evEs, evFs, evOs, evAs, evO, evT, evTs, evI, opnd, look, looks, slotD, share, ownD, isOwnL, bindT_one, Pv.setE, isMut, argFlags, slotsApart, argsIn, argIn, argsOut, permL, ioOp, outsOf, truthR, bop_addI, bop_subI, bop_pow10, cop, ordD, uop, bi, Pv.plain, Pv.fresh, subD_p0, subD_p1, bindT_eP, isMut_eP, R.ok_bind, itemsOf, h, h2, io_is_row, boolsOf?]
theorem io_is_point : f_is_point.io = [false] := rfl
structure Good (ps : List Pt) : Prop where
  one : 1 ≤ ps.length
  few : ps.length ≤ 7
  near : Near ps
  nd : ps.Nodup
theorem ddI_of : ∀ l : List (List Int), l.Nodup → ddI l = l
  | [], _ => rfl
  | x :: l, h => by
    rw [List.nodup_cons] at h
    rw [ddI, if_neg (by simpa using h.1), ddI_of l h.2]
theorem tupsOf_pts (ps : List Pt) : tupsOf? (ps.map eP) = some (ps.map fun p => [p.1, p.2]) := by
  induction ps with
  | nil => rfl
  | cons p ps ih => simp [tupsOf?, eP, intsOf?] at ih ⊢; simp [ih]
theorem den_need_points (ps : List Pt) (g : Good ps) : f_need_points.den [.tuple (ps.map eP)] = .ok false .none [] := by
  have h : evE (.lc (.call f_is_point "is_point" (.cons (.var 1) .nil) []) (.seq (.var 0)) (.one 1) .nil [1]) [some (false, PyData.tuple (ps.map eP)), none] = .ok (true, .list (ps.flatMap fun _ => [.bool true]), [some (false, PyData.tuple (ps.map eP)), none]) := by
    refine ev_lc (enc := eP) (by simp [mkFn, exSs, e_var, e_k, e_bin, e_un, e_land, e_lor, e_cmp, e_chain, e_ite, e_tst, e_tup, e_lst, e_sub, e_slc, e_call, e_bi, e_pop, e_isi, x_set, x_setT, x_par, x_put, x_aug, x_ifs, x_expr, x_app, x_raise, x_brk, x_cont, x_pass, x_retv, x_rete, evEs, evFs, evOs, evAs, evO, evT, evTs, evI, opnd, look, looks, slotD, share, ownD, isOwnL, bindT_one, Pv.setE, isMut, argFlags, slotsApart, argsIn, argIn, argsOut, permL, ioOp, outsOf, truthR, bop_addI, bop_subI, bop_pow10, cop, ordD, uop, bi, Pv.plain, Pv.fresh, subD_p0, subD_p1, bindT_eP, isMut_eP, R.ok_bind, itemsOf]) (by simp [ownOk]) (fun x hx acc ha => ?_) (fun _ => Nat.le_refl 1) (by have := g.few; simp [SZ]; omega)
    obtain ⟨⟨h1, h2⟩, h3, h4⟩ := g.near x hx
    simp [lcStep, mkFn, exSs, e_var, e_k, e_bin, e_un, e_land, e_lor, e_cmp, e_chain, e_ite, e_tst, e_tup, e_lst, e_sub, e_slc, e_call, e_bi, e_pop, e_isi, x_set, x_setT, x_par, x_put, x_aug, x_ifs, x_expr, x_app, x_raise, x_brk, x_cont, x_pass, x_retv, x_rete, evEs, evFs, evOs, evAs, evO, evT, evTs, evI, opnd, look, looks, slotD, share, ownD, isOwnL, bindT_one, Pv.setE, isMut, argFlags, slotsApart, argsIn, argIn, argsOut, permL, ioOp, outsOf, truthR, bop_addI, bop_subI, bop_pow10, cop, ordD, uop, bi, Pv.plain, Pv.fresh, subD_p0, subD_p1, bindT_eP, isMut_eP, R.ok_bind, itemsOf, ha, wipeE, wipeF, io_is_point, den_is_point, h1, h2, h3, h4]
  have nd : (ps.map fun p : Pt => [p.1, p.2]).Nodup := by
    refine List.Pairwise.map _ (fun a b hab e => hab ?_) g.nd
    simp at e
    exact Prod.ext e.1 e.2
  have hd := ddI_of _ nd
  have h2 : f_is_row.den [.tuple (ps.map eP), .int 1, .int 7] = .ok false (.bool true) [] := by
    have a := g.one
    have b := g.few
    rw [den_is_row]
    simp
    omega
  have h3 : (ps.map fun _ : Pt => true).all id = true := by simp
  have few := g.few
  simp [f_need_points, k_need_points, mkFn, exSs, e_var, e_k, e_bin, e_un, e_land, e_lor, e_cmp, e_chain, e_ite, e_tst, e_tup, e_lst, e_sub, e_slc, e_call, e_bi, e_pop, e_isi, x_set, x_setT, x_par, x_put, x_aug, x_ifs, x_expr, x_app, x_raise, x_brk, x_cont, x_pass, x_retv, x_rete, evEs, evFs, evOs, evAs, evO, evT, evTs, evI, opnd, look, looks, slotD, share, ownD, isOwnL, bindT_one, Pv.setE, isMut, argFlags, slotsApart, argsIn, argIn, argsOut, permL, ioOp, outsOf, truthR, bop_addI, bop_subI, bop_pow10, cop, ordD, uop, bi, Pv.plain, Pv.fresh, subD_p0, subD_p1, bindT_eP, isMut_eP, R.ok_bind, itemsOf, h, h2, io_is_row, flatMap_map, boolsOf_map, h3, tupsOf_pts, hd]
  rw [if_pos (by omega)]
  simp [mkFn, exSs, e_var, e_k, e_bin, e_un, e_land, e_lor, e_cmp, e_chain, e_ite, e_tst, e_tup, e_lst, e_sub, e_slc, e_call, e_bi, e_pop, e_isi, x_set, x_setT, x_par, x_put, x_aug, x_ifs, x_expr, x_app, x_raise, x_brk, x_cont, x_pass, x_retv, x_rete, evEs, evFs, evOs, evAs, evO, evT, evTs, evI, opnd, look, looks, slotD, share, ownD, isOwnL, bindT_one, Pv.setE, isMut, argFlags, slotsApart, argsIn, argIn, argsOut, permL, ioOp, outsOf, truthR, bop_addI, bop_subI, bop_pow10, cop, ordD, uop, bi, Pv.plain, Pv.fresh, subD_p0, subD_p1, bindT_eP, isMut_eP, R.ok_bind, itemsOf]
theorem io_need_points : f_need_points.io = [false] := rfl
theorem den_need_left (ps : List Pt) (l : List Int) (h : okLeft l ps.length = true) (h0 : l ≠ []) (hz : l.length ≤ 1000) : f_need_left.den [.tuple (ps.map eP), .tuple (eI l)] = .ok false .none [] := by
  have h1 : ¬ (((eI l).length : Int) < 1) := by
    cases l with
    | nil => exact absurd rfl h0
    | cons a l => simp [eI]; omega
  have h2 : f_is_deeds.den [.tuple (eI l), .int (ps.length : Nat)] = .ok false (.bool true) [] := by rw [den_is_deeds l _ hz, h]
  simp [f_need_left, k_need_left, mkFn, exSs, e_var, e_k, e_bin, e_un, e_land, e_lor, e_cmp, e_chain, e_ite, e_tst, e_tup, e_lst, e_sub, e_slc, e_call, e_bi, e_pop, e_isi, x_set, x_setT, x_par, x_put, x_aug, x_ifs, x_expr, x_app, x_raise, x_brk, x_cont, x_pass, x_retv, x_rete, evEs, evFs, evOs, evAs, evO, evT, evTs, evI, opnd, look, looks, slotD, share, ownD, isOwnL, bindT_one, Pv.setE, isMut, argFlags, slotsApart, argsIn, argIn, argsOut, permL, ioOp, outsOf, truthR, bop_addI, bop_subI, bop_pow10, cop, ordD, uop, bi, Pv.plain, Pv.fresh, subD_p0, subD_p1, bindT_eP, isMut_eP, R.ok_bind, itemsOf, io_is_deeds, h2, h1]
theorem io_need_left : f_need_left.io = [false, false] := rfl
theorem okLeft_at {l : List Int} {n : Int} (h : okLeft l n = true) : ∀ j ∈ l, 0 ≤ j ∧ j < n := by
  unfold okLeft at h
  simp only [Bool.and_eq_true, List.all_eq_true, decide_eq_true_eq] at h
  intro j hj
  have := h.2.1 j hj
  omega
theorem den_outer_points (ps : List Pt) (l : List Int) (g : Good ps) (h : okLeft l ps.length = true) (h0 : l ≠ []) : f_outer_points.den [.tuple (ps.map eP), .tuple (eI l)] = .ok true (.list (eI (outs ps l))) [] := by
  have hz : l.length ≤ 1000 := by
    have := g.few
    unfold okLeft at h
    simp only [Bool.and_eq_true, decide_eq_true_eq] at h
    omega
  simp [f_outer_points, k_outer_points, mkFn, exSs, e_var, e_k, e_bin, e_un, e_land, e_lor, e_cmp, e_chain, e_ite, e_tst, e_tup, e_lst, e_sub, e_slc, e_call, e_bi, e_pop, e_isi, x_set, x_setT, x_par, x_put, x_aug, x_ifs, x_expr, x_app, x_raise, x_brk, x_cont, x_pass, x_retv, x_rete, evEs, evFs, evOs, evAs, evO, evT, evTs, evI, opnd, look, looks, slotD, share, ownD, isOwnL, bindT_one, Pv.setE, isMut, argFlags, slotsApart, argsIn, argIn, argsOut, permL, ioOp, outsOf, truthR, bop_addI, bop_subI, bop_pow10, cop, ordD, uop, bi, Pv.plain, Pv.fresh, subD_p0, subD_p1, bindT_eP, isMut_eP, R.ok_bind, itemsOf, io_need_points, io_need_left, io_outer_of, den_need_points ps g, den_need_left ps l h h0 hz, den_outer_of ps l g.near (okLeft_at h) hz]
theorem io_outer_points : f_outer_points.io = [false, false] := rfl

/-! the law's own look -/
def ePP (p : Pt × Pt) : D := .tuple [eP p.1, eP p.2]
theorem bindT_ePP (r : Pv.Env) (i j : Nat) (p : Pt × Pt) : bindT r (.tup [i, j]) (ePP p) = .ok ((r.set i (some (false, eP p.1))).set j (some (false, eP p.2))) := rfl
theorem zip_pts (a b : List Pt) : zipD (a.map eP) (b.map eP) = (a.zip b).map ePP := by
  unfold zipD
  rw [List.zip_map, List.map_map]
  rfl
theorem bop_addL {xs ys : List D} (h : xs.length + ys.length ≤ 1000) : bop .add (.list xs) (.list ys) = .ok (true, .list (xs ++ ys)) := by
  show (if xs.length + ys.length ≤ SZ then Pv.fresh _ else _) = _
  rw [if_pos (by unfold SZ; omega)]
  rfl
def sides (rows : List Pt) : List Int := (rows.zip (rows.tail ++ rows.take 1)).map fun p => cr p.1 p.2
theorem den_sides (p : Pt) (qs : List Pt) (hq : ∀ q ∈ qs, Sm2 (sub2 q p)) (hl : qs.length ≤ 10) : f__law_point_sides.den [eP p, .list (qs.map eP)] = .ok true (.list (eI (sides (qs.map fun q => sub2 q p)))) [] := by
  have h1 : evE (.lc (.tup (.cons (.bin .sub (.sub (.var 3) (.k (.int 0))) (.sub (.var 0) (.k (.int 0)))) (.cons (.bin .sub (.sub (.var 3) (.k (.int 1))) (.sub (.var 0) (.k (.int 1)))) .nil))) (.seq (.var 1)) (.one 3) .nil [3]) [some (false, eP p), some (false, .list (qs.map eP)), none, none, none] = .ok (true, .list (qs.flatMap fun q => [eP (sub2 q p)]), [some (false, eP p), some (false, .list (qs.map eP)), none, none, none]) := by
    refine ev_lc (enc := eP) (by simp [mkFn, exSs, e_var, e_k, e_bin, e_un, e_land, e_lor, e_cmp, e_chain, e_ite, e_tst, e_tup, e_lst, e_sub, e_slc, e_call, e_bi, e_pop, e_isi, x_set, x_setT, x_par, x_put, x_aug, x_ifs, x_expr, x_app, x_raise, x_brk, x_cont, x_pass, x_retv, x_rete, evEs, evFs, evOs, evAs, evO, evT, evTs, evI, opnd, look, looks, slotD, share, ownD, isOwnL, bindT_one, Pv.setE, isMut, argFlags, slotsApart, argsIn, argIn, argsOut, permL, ioOp, outsOf, truthR, bop_addI, bop_subI, bop_pow10, cop, ordD, uop, bi, Pv.plain, Pv.fresh, subD_p0, subD_p1, bindT_eP, isMut_eP, R.ok_bind, itemsOf]) (by simp [ownOk]) (fun x hx acc ha => ?_) (fun _ => Nat.le_refl 1) (by simp [SZ]; omega)
    simp [lcStep, mkFn, exSs, e_var, e_k, e_bin, e_un, e_land, e_lor, e_cmp, e_chain, e_ite, e_tst, e_tup, e_lst, e_sub, e_slc, e_call, e_bi, e_pop, e_isi, x_set, x_setT, x_par, x_put, x_aug, x_ifs, x_expr, x_app, x_raise, x_brk, x_cont, x_pass, x_retv, x_rete, evEs, evFs, evOs, evAs, evO, evT, evTs, evI, opnd, look, looks, slotD, share, ownD, isOwnL, bindT_one, Pv.setE, isMut, argFlags, slotsApart, argsIn, argIn, argsOut, permL, ioOp, outsOf, truthR, bop_addI, bop_subI, bop_pow10, cop, ordD, uop, bi, Pv.plain, Pv.fresh, subD_p0, subD_p1, bindT_eP, isMut_eP, R.ok_bind, itemsOf, ha, wipeE, wipeF, eP_mk, sub2]
  generalize hr : qs.map (fun q => sub2 q p) = rows
  have hrl : rows.length ≤ 10 := by rw [← hr, List.length_map]; exact hl
  have hrs : ∀ u ∈ rows, Sm2 u := fun u hu => by
    rw [← hr] at hu
    obtain ⟨q, h2, rfl⟩ := List.mem_map.mp hu
    exact hq q h2
  have h1' : (qs.flatMap fun q => [eP (sub2 q p)]) = rows.map eP := by rw [flatMap_map, ← hr, List.map_map]; rfl
  rw [h1'] at h1
  have h2 : evE (.lc (.bin .sub (.bin .mul (.sub (.var 3) (.k (.int 0))) (.sub (.var 4) (.k (.int 1)))) (.bin .mul (.sub (.var 3) (.k (.int 1))) (.sub (.var 4) (.k (.int 0))))) (.zip (.var 2) (.bin .add (.slc (.var 2) (.cons (.k (.int 1)) .nil) .nil) (.slc (.var 2) .nil (.cons (.k (.int 1)) .nil)))) (.tup [3, 4]) .nil [3, 4])
      [some (false, eP p), some (false, .list (qs.map eP)), some (true, .list (rows.map eP)), none, none] = .ok (true, .list ((rows.zip (rows.tail ++ rows.take 1)).flatMap fun u => [.int (cr u.1 u.2)]), [some (false, eP p), some (false, .list (qs.map eP)), some (false, .list (rows.map eP)), none, none]) := by
    refine ev_lc (enc := ePP) (l := rows.zip (rows.tail ++ rows.take 1)) ?_ (by simp [ownOk]) (fun x hx acc ha => ?_) (fun _ => Nat.le_refl 1) (by simp [SZ]; omega)
    · have c1 : cutD (rows.map eP) none (some 1) = (rows.map eP).take 1 := cut_to _ 1
      simp [mkFn, exSs, e_var, e_k, e_bin, e_un, e_land, e_lor, e_cmp, e_chain, e_ite, e_tst, e_tup, e_lst, e_sub, e_slc, e_call, e_bi, e_pop, e_isi, x_set, x_setT, x_par, x_put, x_aug, x_ifs, x_expr, x_app, x_raise, x_brk, x_cont, x_pass, x_retv, x_rete, evEs, evFs, evOs, evAs, evO, evT, evTs, evI, opnd, look, looks, slotD, share, ownD, isOwnL, bindT_one, Pv.setE, isMut, argFlags, slotsApart, argsIn, argIn, argsOut, permL, ioOp, outsOf, truthR, bop_addI, bop_subI, bop_pow10, cop, ordD, uop, bi, Pv.plain, Pv.fresh, subD_p0, subD_p1, bindT_eP, isMut_eP, R.ok_bind, itemsOf, slcD, cut_from1, c1]
      rw [bop_addL (by simp; omega)]
      simp only [R.ok_bind]
      rw [← List.map_tail, ← List.map_take, ← List.map_append, zip_pts]
    · obtain ⟨u, v⟩ := x
      have hu := hrs u (List.of_mem_zip hx).1
      simp [lcStep, mkFn, exSs, e_var, e_k, e_bin, e_un, e_land, e_lor, e_cmp, e_chain, e_ite, e_tst, e_tup, e_lst, e_sub, e_slc, e_call, e_bi, e_pop, e_isi, x_set, x_setT, x_par, x_put, x_aug, x_ifs, x_expr, x_app, x_raise, x_brk, x_cont, x_pass, x_retv, x_rete, evEs, evFs, evOs, evAs, evO, evT, evTs, evI, opnd, look, looks, slotD, share, ownD, isOwnL, bindT_one, Pv.setE, isMut, argFlags, slotsApart, argsIn, argIn, argsOut, permL, ioOp, outsOf, truthR, bop_addI, bop_subI, bop_pow10, cop, ordD, uop, bi, Pv.plain, Pv.fresh, subD_p0, subD_p1, bindT_eP, isMut_eP, R.ok_bind, itemsOf, ha, wipeE, wipeF, bindT_ePP, bop_mulS hu.1, bop_mulS hu.2, cr]
  simp [f__law_point_sides, k__law_point_sides, mkFn, exSs, e_var, e_k, e_bin, e_un, e_land, e_lor, e_cmp, e_chain, e_ite, e_tst, e_tup, e_lst, e_sub, e_slc, e_call, e_bi, e_pop, e_isi, x_set, x_setT, x_par, x_put, x_aug, x_ifs, x_expr, x_app, x_raise, x_brk, x_cont, x_pass, x_retv, x_rete, evEs, evFs, evOs, evAs, evO, evT, evTs, evI, opnd, look, looks, slotD, share, ownD, isOwnL, bindT_one, Pv.setE, isMut, argFlags, slotsApart, argsIn, argIn, argsOut, permL, ioOp, outsOf, truthR, bop_addI, bop_subI, bop_pow10, cop, ordD, uop, bi, Pv.plain, Pv.fresh, subD_p0, subD_p1, bindT_eP, isMut_eP, R.ok_bind, itemsOf, h1, h2, flatMap_map, sides, eI, List.map_map, Function.comp_def]
end Lw

end
section
namespace Lw
open PySem hiding Env
open Pv
theorem io_sides : f__law_point_sides.io = [false, false] := rfl
/-- a loop that goes on or tells False -/
theorem forL_any {α : Type} {step : D → Pv.Env → R (Fl × Pv.Env)} {enc : α → D} {I : Pv.Env → Prop} {bad : α → Bool} : ∀ (l : List α), (∀ x ∈ l, ∀ r, I r → ∃ r', step (enc x) r = .ok (if bad x then .ret false (.bool false) else .next, r') ∧ (bad x = false → I r')) →
    ∀ r, I r → ∃ r', forL step (l.map enc) r = .ok (if l.any bad then .ret false (.bool false) else .next, r') ∧ (l.any bad = false → I r')
  | [], _, r, h => ⟨r, rfl, fun _ => h⟩
  | x :: l, hs, r, h => by
    obtain ⟨r1, e1, h1⟩ := hs x List.mem_cons_self r h
    cases hb : bad x with
    | true =>
      rw [hb] at e1
      refine ⟨r1, ?_, fun z => ?_⟩
      · rw [List.map_cons, forL, e1]
        simp [hb]
      · simp [hb] at z
    | false =>
      rw [hb] at e1
      obtain ⟨r2, e2, h2⟩ := forL_any l (fun y hy => hs y (List.mem_cons_of_mem _ hy)) r1 (h1 hb)
      refine ⟨r2, ?_, fun z => h2 (by simpa [hb] using z)⟩
      rw [List.map_cons, forL, e1]
      simp [hb, e2]
theorem ex_for {α : Type} {tg : Tg} {it : CI} {b : List CS} {r r1 : Pv.Env} {enc : α → D} {l : List α} {I : Pv.Env → Prop} {bad : α → Bool} (hi : evI it r = .ok (l.map enc, r1)) (h1 : I r1)
    (hs : ∀ x ∈ l, ∀ r, I r → ∃ r', (bindT r tg (enc x) >>= fun r1 => exSs b r1) = .ok (if bad x then .ret false (.bool false) else .next, r') ∧ (bad x = false → I r')) :
    ∃ r', exS (.for_ tg it b) r = .ok (if l.any bad then .ret false (.bool false) else .next, r') ∧ (l.any bad = false → I r') := by
  obtain ⟨r', e, h⟩ := forL_any (step := fun d r => bindT r tg d >>= fun r1 => exSs b r1) l hs r1 h1
  refine ⟨r', ?_, h⟩
  rw [exS, hi]
  exact e
theorem range0 (n : Nat) : rangeD 0 (n : Int) = (List.range n).map fun i : Nat => PyData.int (i : Int) := by
  unfold rangeD
  simp
def eE (x : Pt × Nat) : D := .tuple [.int (x.2 : Int), eP x.1]
theorem bindT_eE (r : Pv.Env) (i j : Nat) (x : Pt × Nat) : bindT r (.tup [i, j]) (eE x) = .ok ((r.set i (some (false, .int (x.2 : Int)))).set j (some (false, eP x.1))) := rfl
theorem enum_pts : ∀ (qs : List Pt) (k : Nat), enumD k (qs.map eP) = (qs.zipIdx k).map eE
  | [], _ => rfl
  | q :: qs, k => by
    rw [List.map_cons, enumD, List.zipIdx_cons, List.map_cons, enum_pts qs (k + 1)]
    rfl
def bad2 (u v : Pt) : Bool := decide (cr u v = 0) && decide (dt u v < 0)
def bad3 (u v w : Pt) : Bool := (decide (0 ≤ min (min (cr u v) (cr v w)) (cr w u)) || decide (max (max (cr u v) (cr v w)) (cr w u) ≤ 0)) && !decide (cr u v = 0 ∧ cr v w = 0 ∧ cr w u = 0)
def badAt (p : Pt) (qs : List Pt) (x : Pt × Nat) : Bool := (List.range x.2).any fun s => bad2 (sub2 x.1 p) (sub2 (qs.getD s (0, 0)) p) || (qs.take s).any fun t => bad3 (sub2 x.1 p) (sub2 (qs.getD s (0, 0)) p) (sub2 t p)
theorem subL_at {qs : List Pt} {s : Nat} (h : s < qs.length) : subD (.list (qs.map eP)) (.int (s : Int)) = .ok (eP (qs.getD s (0, 0))) := by
  show (match (ixD (qs.map eP).length (s : Int)).bind ((qs.map eP)[·]?) with | some d => R.ok d | none => .bad) = _
  unfold ixD
  rw [if_pos (by omega), if_pos (by simp; omega)]
  simp [List.getElem?_eq_getElem h]
def sideB (u v w : Pt) : List Int := [cr u v, cr v w, cr w u]
theorem intsOf_eI (l : List Int) : intsOf? (eI l) = some l := by
  have := intsOf_map l id
  simpa [eI] using this
theorem third (p one two : Pt) (qs : List Pt) (hn : ∀ q ∈ qs, Sm2 (sub2 q p)) (h1 : Sm2 (sub2 one p)) (h2 : Sm2 (sub2 two p)) (s at1 : Nat) (along : Int) (x7 x8 : Option (Bool × D)) (hs : s < qs.length) (hl : qs.length ≤ 10) :
    ∃ r', exS (.for_ (.one 7) (.seq (.slc (.var 1) .nil (.cons (.var 4) .nil))) [.set 8 (.call f__law_point_sides "_law_point_sides" (.cons (.var 0) (.cons (.lst (.cons (.var 3) (.cons (.var 5) (.cons (.var 7) .nil)))) .nil)) []),
        .ifs (.and (.or (.val (.cmp .ge (.bi .min (.cons (.var 8) .nil)) (.k (.int 0)))) (.val (.cmp .le (.bi .max (.cons (.var 8) .nil)) (.k (.int 0))))) (.val (.cmp .ne (.var 8) (.lst (.cons (.k (.int 0)) (.cons (.k (.int 0)) (.cons (.k (.int 0)) .nil))))))) [.ret (.k (.bool false))] []])
      [some (false, eP p), some (false, .list (qs.map eP)), some (false, .int (at1 : Int)), some (false, eP one), some (false, .int (s : Int)), some (false, eP two), some (false, .int along), x7, x8] =
      .ok (if (qs.take s).any (fun t => bad3 (sub2 one p) (sub2 two p) (sub2 t p)) then .ret false (.bool false) else .next, r') ∧
      ((qs.take s).any (fun t => bad3 (sub2 one p) (sub2 two p) (sub2 t p)) = false → ∃ x7 x8, r' = [some (false, eP p), some (false, .list (qs.map eP)), some (false, .int (at1 : Int)), some (false, eP one), some (false, .int (s : Int)), some (false, eP two), some (false, .int along), x7, x8]) := by
  refine ex_for (enc := eP) (l := qs.take s) (I := fun r' => ∃ x7 x8, r' = [some (false, eP p), some (false, .list (qs.map eP)), some (false, .int (at1 : Int)), some (false, eP one), some (false, .int (s : Int)), some (false, eP two), some (false, .int along), x7, x8]) (r1 := [some (false, eP p), some (false, .list (qs.map eP)), some (false, .int (at1 : Int)), some (false, eP one), some (false, .int (s : Int)), some (false, eP two), some (false, .int along), x7, x8]) ?_ ⟨_, _, rfl⟩ (fun t ht r hr => ?_)
  · simp [mkFn, exSs, e_var, e_k, e_bin, e_un, e_land, e_lor, e_cmp, e_chain, e_ite, e_tst, e_tup, e_lst, e_sub, e_slc, e_call, e_bi, e_pop, e_isi, x_set, x_setT, x_par, x_put, x_aug, x_ifs, x_expr, x_app, x_raise, x_brk, x_cont, x_pass, x_retv, x_rete, evEs, evFs, evOs, evAs, evO, evT, evTs, evI, opnd, look, looks, slotD, share, ownD, isOwnL, bindT_one, Pv.setE, isMut, argFlags, slotsApart, argsIn, argIn, argsOut, permL, ioOp, outsOf, truthR, bop_addI, bop_subI, bop_pow10, cop, ordD, uop, bi, Pv.plain, Pv.fresh, subD_p0, subD_p1, bindT_eP, isMut_eP, R.ok_bind, itemsOf, slcD, cut_to]
  · obtain ⟨x7, x8, rfl⟩ := hr
    have h3 : Sm2 (sub2 t p) := hn t (List.mem_of_mem_take ht)
    have hd := den_sides p [one, two, t] (by simp [h1, h2, h3]) (by simp)
    have hsd : sides ([one, two, t].map fun q => sub2 q p) = [cr (sub2 one p) (sub2 two p), cr (sub2 two p) (sub2 t p), cr (sub2 t p) (sub2 one p)] := rfl
    rw [hsd] at hd
    generalize ha : cr (sub2 one p) (sub2 two p) = a at *
    generalize hb : cr (sub2 two p) (sub2 t p) = b at *
    generalize hc : cr (sub2 t p) (sub2 one p) = c at *
    have e : bad3 (sub2 one p) (sub2 two p) (sub2 t p) = ((decide (0 ≤ min (min a b) c) || decide (max (max a b) c ≤ 0)) && !decide (a = 0 ∧ b = 0 ∧ c = 0)) := by
      unfold bad3
      rw [ha, hb, hc]
    rw [e]
    simp only [List.map_cons, List.map_nil] at hd
    have z3 : (PyData.list [.int 0, .int 0, .int 0]) = .list (eI [0, 0, 0]) := rfl
    by_cases c1 : 0 ≤ min a (min b c) <;> by_cases c2 : max a (max b c) ≤ 0 <;> by_cases c3 : a = 0 ∧ b = 0 ∧ c = 0 <;> simp [mkFn, exSs, e_var, e_k, e_bin, e_un, e_land, e_lor, e_cmp, e_chain, e_ite, e_tst, e_tup, e_lst, e_sub, e_slc, e_call, e_bi, e_pop, e_isi, x_set, x_setT, x_par, x_put, x_aug, x_ifs, x_expr, x_app, x_raise, x_brk, x_cont, x_pass, x_retv, x_rete, evEs, evFs, evOs, evAs, evO, evT, evTs, evI, opnd, look, looks, slotD, share, ownD, isOwnL, bindT_one, Pv.setE, isMut, argFlags, slotsApart, argsIn, argIn, argsOut, permL, ioOp, outsOf, truthR, bop_addI, bop_subI, bop_pow10, cop, ordD, uop, bi, Pv.plain, Pv.fresh, subD_p0, subD_p1, bindT_eP, isMut_eP, R.ok_bind, itemsOf, hd, io_sides, z3, eqv_ints, shaped_ints, intsOf_eI, c1, c2, c3]
end Lw

end
section
namespace Lw
open PySem hiding Env
open Pv
theorem subD_eI0 (a : Int) (l : List Int) : subD (.list (eI (a :: l))) (.int 0) = .ok (.int a) := by
  show (match (ixD (eI (a :: l)).length 0).bind ((eI (a :: l))[·]?) with | some d => R.ok d | none => .bad) = _
  simp [ixD, eI]
abbrev env9 (p : Pt) (qs : List Pt) (t : Pv.Env) : Pv.Env := some (false, eP p) :: some (false, .list (qs.map eP)) :: t
theorem small_at {n : Nat} (h : n ≤ 10) : smallI (n : Int) = true := by
  exact smallI_of ⟨by omega, by omega⟩
noncomputable def body2 : List CS := [.set 5 (.sub (.var 1) (.var 4)),
  .set 6 (.bin .add (.bin .mul (.bin .sub (.sub (.var 3) (.k (.int 0))) (.sub (.var 0) (.k (.int 0)))) (.bin .sub (.sub (.var 5) (.k (.int 0))) (.sub (.var 0) (.k (.int 0))))) (.bin .mul (.bin .sub (.sub (.var 3) (.k (.int 1))) (.sub (.var 0) (.k (.int 1)))) (.bin .sub (.sub (.var 5) (.k (.int 1))) (.sub (.var 0) (.k (.int 1)))))),
  .ifs (.and (.val (.cmp .eq (.sub (.call f__law_point_sides "_law_point_sides" (.cons (.var 0) (.cons (.lst (.cons (.var 3) (.cons (.var 5) .nil))) .nil)) []) (.k (.int 0))) (.k (.int 0)))) (.val (.cmp .lt (.var 6) (.k (.int 0))))) [.ret (.k (.bool false))] [],
  .for_ (.one 7) (.seq (.slc (.var 1) .nil (.cons (.var 4) .nil))) [.set 8 (.call f__law_point_sides "_law_point_sides" (.cons (.var 0) (.cons (.lst (.cons (.var 3) (.cons (.var 5) (.cons (.var 7) .nil)))) .nil)) []),
  .ifs (.and (.or (.val (.cmp .ge (.bi .min (.cons (.var 8) .nil)) (.k (.int 0)))) (.val (.cmp .le (.bi .max (.cons (.var 8) .nil)) (.k (.int 0))))) (.val (.cmp .ne (.var 8) (.lst (.cons (.k (.int 0)) (.cons (.k (.int 0)) (.cons (.k (.int 0)) .nil))))))) [.ret (.k (.bool false))] []]]
theorem along_of (one two p : Pt) : (one.1 - p.1) * (two.1 - p.1) + (one.2 - p.2) * (two.2 - p.2) = dt (sub2 one p) (sub2 two p) := rfl
theorem second_step (p one two : Pt) (qs : List Pt) (hn : ∀ q ∈ qs, Sm2 (sub2 q p)) (h1 : Sm2 (sub2 one p)) (htwo : Sm2 (sub2 two p)) (at1 s : Nat) (x5 x6 x7 x8 : Option (Bool × D)) (hs2 : s < qs.length) (hl : qs.length ≤ 10) (hsub : subD (.list (qs.map eP)) (.int (s : Int)) = .ok (eP two)) :
    ∃ r', exSs body2 [some (false, eP p), some (false, .list (qs.map eP)), some (false, .int (at1 : Int)), some (false, eP one), some (false, .int (s : Int)), x5, x6, x7, x8] =
      .ok (if (bad2 (sub2 one p) (sub2 two p) || (qs.take s).any fun t => bad3 (sub2 one p) (sub2 two p) (sub2 t p)) then .ret false (.bool false) else .next, r') ∧
      ((bad2 (sub2 one p) (sub2 two p) || (qs.take s).any fun t => bad3 (sub2 one p) (sub2 two p) (sub2 t p)) = false → ∃ x4 x5 x6 x7 x8, r' = [some (false, eP p), some (false, .list (qs.map eP)), some (false, .int (at1 : Int)), some (false, eP one), x4, x5, x6, x7, x8]) := by
  have hd := den_sides p [one, two] (by simp [h1, htwo]) (by simp)
  rw [show sides ([one, two].map fun q => sub2 q p) = [cr (sub2 one p) (sub2 two p), cr (sub2 two p) (sub2 one p)] from rfl] at hd
  simp only [List.map_cons, List.map_nil] at hd
  have m1 : Sm (one.1 - p.1) := h1.1
  have m2 : Sm (one.2 - p.2) := h1.2
  obtain ⟨r', e, he⟩ := third p one two qs hn h1 htwo s at1 (dt (sub2 one p) (sub2 two p)) x7 x8 hs2 hl
  generalize hany : (qs.take s).any (fun t => bad3 (sub2 one p) (sub2 two p) (sub2 t p)) = bb at *
  have e2 : bad2 (sub2 one p) (sub2 two p) = (decide (cr (sub2 one p) (sub2 two p) = 0) && decide (dt (sub2 one p) (sub2 two p) < 0)) := rfl
  rw [e2]
  by_cases c1 : cr (sub2 one p) (sub2 two p) = 0
  · by_cases c2 : dt (sub2 one p) (sub2 two p) < 0
    · refine ⟨[some (false, eP p), some (false, .list (qs.map eP)), some (false, .int (at1 : Int)), some (false, eP one), some (false, .int (s : Int)), some (false, eP two), some (false, .int (dt (sub2 one p) (sub2 two p))), x7, x8], ?_, fun z => ?_⟩
      · simp [body2, mkFn, exSs, e_var, e_k, e_bin, e_un, e_land, e_lor, e_cmp, e_chain, e_ite, e_tst, e_tup, e_lst, e_sub, e_slc, e_call, e_bi, e_pop, e_isi, x_set, x_setT, x_par, x_put, x_aug, x_ifs, x_expr, x_app, x_raise, x_brk, x_cont, x_pass, x_retv, x_rete, evEs, evFs, evOs, evAs, evO, evT, evTs, evI, opnd, look, looks, slotD, share, ownD, isOwnL, bindT_one, Pv.setE, isMut, argFlags, slotsApart, argsIn, argIn, argsOut, permL, ioOp, outsOf, truthR, bop_addI, bop_subI, bop_pow10, cop, ordD, uop, bi, Pv.plain, Pv.fresh, subD_p0, subD_p1, bindT_eP, isMut_eP, R.ok_bind, itemsOf, hsub, hd, io_sides, bop_mulS m1, bop_mulS m2, along_of, subD_eI0, shaped_int, eqv_int, c1, c2]
      · simp [c1, c2] at z
    · refine ⟨r', ?_, fun z => ?_⟩
      · cases bb <;> simp [body2, mkFn, exSs, e_var, e_k, e_bin, e_un, e_land, e_lor, e_cmp, e_chain, e_ite, e_tst, e_tup, e_lst, e_sub, e_slc, e_call, e_bi, e_pop, e_isi, x_set, x_setT, x_par, x_put, x_aug, x_ifs, x_expr, x_app, x_raise, x_brk, x_cont, x_pass, x_retv, x_rete, evEs, evFs, evOs, evAs, evO, evT, evTs, evI, opnd, look, looks, slotD, share, ownD, isOwnL, bindT_one, Pv.setE, isMut, argFlags, slotsApart, argsIn, argIn, argsOut, permL, ioOp, outsOf, truthR, bop_addI, bop_subI, bop_pow10, cop, ordD, uop, bi, Pv.plain, Pv.fresh, subD_p0, subD_p1, bindT_eP, isMut_eP, R.ok_bind, itemsOf, hsub, hd, io_sides, bop_mulS m1, bop_mulS m2, along_of, subD_eI0, shaped_int, eqv_int, c1, c2, e]
      · obtain ⟨y7, y8, rfl⟩ := he (by simpa [c1, c2] using z)
        exact ⟨_, _, _, _, _, rfl⟩
  · refine ⟨r', ?_, fun z => ?_⟩
    · cases bb <;> simp [body2, mkFn, exSs, e_var, e_k, e_bin, e_un, e_land, e_lor, e_cmp, e_chain, e_ite, e_tst, e_tup, e_lst, e_sub, e_slc, e_call, e_bi, e_pop, e_isi, x_set, x_setT, x_par, x_put, x_aug, x_ifs, x_expr, x_app, x_raise, x_brk, x_cont, x_pass, x_retv, x_rete, evEs, evFs, evOs, evAs, evO, evT, evTs, evI, opnd, look, looks, slotD, share, ownD, isOwnL, bindT_one, Pv.setE, isMut, argFlags, slotsApart, argsIn, argIn, argsOut, permL, ioOp, outsOf, truthR, bop_addI, bop_subI, bop_pow10, cop, ordD, uop, bi, Pv.plain, Pv.fresh, subD_p0, subD_p1, bindT_eP, isMut_eP, R.ok_bind, itemsOf, hsub, hd, io_sides, bop_mulS m1, bop_mulS m2, along_of, subD_eI0, shaped_int, eqv_int, c1, e]
    · obtain ⟨y7, y8, rfl⟩ := he (by simpa [c1] using z)
      exact ⟨_, _, _, _, _, rfl⟩
theorem second (p one : Pt) (qs : List Pt) (hn : ∀ q ∈ qs, Sm2 (sub2 q p)) (h1 : Sm2 (sub2 one p)) (at1 : Nat) (x4 x5 x6 x7 x8 : Option (Bool × D)) (hs : at1 ≤ qs.length) (hl : qs.length ≤ 10) :
    ∃ r', exS (.for_ (.one 4) (.rng (.cons (.var 2) .nil)) body2) [some (false, eP p), some (false, .list (qs.map eP)), some (false, .int (at1 : Int)), some (false, eP one), x4, x5, x6, x7, x8] =
      .ok (if badAt p qs (one, at1) then .ret false (.bool false) else .next, r') ∧
      (badAt p qs (one, at1) = false → ∃ x4 x5 x6 x7 x8, r' = [some (false, eP p), some (false, .list (qs.map eP)), some (false, .int (at1 : Int)), some (false, eP one), x4, x5, x6, x7, x8]) := by
  refine ex_for (enc := fun i : Nat => PyData.int (i : Int)) (l := List.range at1) (bad := fun s => bad2 (sub2 one p) (sub2 (qs.getD s (0, 0)) p) || (qs.take s).any fun t => bad3 (sub2 one p) (sub2 (qs.getD s (0, 0)) p) (sub2 t p)) (I := fun r' => ∃ x4 x5 x6 x7 x8, r' = [some (false, eP p), some (false, .list (qs.map eP)), some (false, .int (at1 : Int)), some (false, eP one), x4, x5, x6, x7, x8]) (r1 := [some (false, eP p), some (false, .list (qs.map eP)), some (false, .int (at1 : Int)), some (false, eP one), x4, x5, x6, x7, x8]) ?_ ⟨_, _, _, _, _, rfl⟩ (fun s hs1 r hr => ?_)
  · simp [mkFn, exSs, e_var, e_k, e_bin, e_un, e_land, e_lor, e_cmp, e_chain, e_ite, e_tst, e_tup, e_lst, e_sub, e_slc, e_call, e_bi, e_pop, e_isi, x_set, x_setT, x_par, x_put, x_aug, x_ifs, x_expr, x_app, x_raise, x_brk, x_cont, x_pass, x_retv, x_rete, evEs, evFs, evOs, evAs, evO, evT, evTs, evI, opnd, look, looks, slotD, share, ownD, isOwnL, bindT_one, Pv.setE, isMut, argFlags, slotsApart, argsIn, argIn, argsOut, permL, ioOp, outsOf, truthR, bop_addI, bop_subI, bop_pow10, cop, ordD, uop, bi, Pv.plain, Pv.fresh, subD_p0, subD_p1, bindT_eP, isMut_eP, R.ok_bind, itemsOf, small_at (Nat.le_trans hs hl), range0]
  · obtain ⟨x4, x5, x6, x7, x8, rfl⟩ := hr
    have hs2 : s < qs.length := by have := List.mem_range.mp hs1; omega
    have htwo : Sm2 (sub2 (qs.getD s (0, 0)) p) := hn _ (by rw [List.getD_eq_getElem?_getD, List.getElem?_eq_getElem hs2]; exact List.getElem_mem hs2)
    exact second_step p one _ qs hn h1 htwo at1 s x5 x6 x7 x8 hs2 hl (subL_at hs2)
def badP (p : Pt) (qs : List Pt) : Bool := qs.zipIdx.any (badAt p qs)
theorem den_law_is_outer (p : Pt) (qs : List Pt) (hn : ∀ q ∈ qs, Sm2 (sub2 q p)) (hl : qs.length ≤ 10) : f__law_is_outer.den [eP p, .list (qs.map eP)] = .ok false (.bool (!badP p qs)) [] := by
  have h := ex_for (tg := .tup [2, 3]) (it := .enum (.var 1)) (enc := eE) (l := qs.zipIdx) (bad := badAt p qs) (I := fun r' => ∃ x2 x3 x4 x5 x6 x7 x8, r' = [some (false, eP p), some (false, .list (qs.map eP)), x2, x3, x4, x5, x6, x7, x8]) (r := [some (false, eP p), some (false, .list (qs.map eP)), none, none, none, none, none, none, none]) (r1 := [some (false, eP p), some (false, .list (qs.map eP)), none, none, none, none, none, none, none])
    (b := [.for_ (.one 4) (.rng (.cons (.var 2) .nil)) body2])
    (by simp [mkFn, exSs, e_var, e_k, e_bin, e_un, e_land, e_lor, e_cmp, e_chain, e_ite, e_tst, e_tup, e_lst, e_sub, e_slc, e_call, e_bi, e_pop, e_isi, x_set, x_setT, x_par, x_put, x_aug, x_ifs, x_expr, x_app, x_raise, x_brk, x_cont, x_pass, x_retv, x_rete, evEs, evFs, evOs, evAs, evO, evT, evTs, evI, opnd, look, looks, slotD, share, ownD, isOwnL, bindT_one, Pv.setE, isMut, argFlags, slotsApart, argsIn, argIn, argsOut, permL, ioOp, outsOf, truthR, bop_addI, bop_subI, bop_pow10, cop, ordD, uop, bi, Pv.plain, Pv.fresh, subD_p0, subD_p1, bindT_eP, isMut_eP, R.ok_bind, itemsOf, enum_pts]) ⟨_, _, _, _, _, _, _, rfl⟩ (fun x hx r hr => ?_)
  · obtain ⟨r', e, _⟩ := h
    unfold badP
    unfold body2 at e
    cases hb : qs.zipIdx.any (badAt p qs) <;> rw [hb] at e <;> simp [f__law_is_outer, k__law_is_outer, mkFn, exSs, e_var, e_k, e_bin, e_un, e_land, e_lor, e_cmp, e_chain, e_ite, e_tst, e_tup, e_lst, e_sub, e_slc, e_call, e_bi, e_pop, e_isi, x_set, x_setT, x_par, x_put, x_aug, x_ifs, x_expr, x_app, x_raise, x_brk, x_cont, x_pass, x_retv, x_rete, evEs, evFs, evOs, evAs, evO, evT, evTs, evI, opnd, look, looks, slotD, share, ownD, isOwnL, bindT_one, Pv.setE, isMut, argFlags, slotsApart, argsIn, argIn, argsOut, permL, ioOp, outsOf, truthR, bop_addI, bop_subI, bop_pow10, cop, ordD, uop, bi, Pv.plain, Pv.fresh, subD_p0, subD_p1, bindT_eP, isMut_eP, R.ok_bind, itemsOf, e]
  · obtain ⟨x2, x3, x4, x5, x6, x7, x8, rfl⟩ := hr
    obtain ⟨q, i⟩ := x
    have hx' := List.mem_zipIdx_iff_getElem?.mp hx
    have hi : i < qs.length := (List.getElem?_eq_some_iff.mp hx').1
    have hq : q ∈ qs := List.mem_of_getElem? hx'
    obtain ⟨r', e, he⟩ := second p q qs hn (hn q hq) i x4 x5 x6 x7 x8 (Nat.le_of_lt hi) hl
    refine ⟨r', ?_, fun z => ?_⟩
    · cases hb : badAt p qs (q, i) <;> rw [hb] at e <;> simp [mkFn, exSs, e_var, e_k, e_bin, e_un, e_land, e_lor, e_cmp, e_chain, e_ite, e_tst, e_tup, e_lst, e_sub, e_slc, e_call, e_bi, e_pop, e_isi, x_set, x_setT, x_par, x_put, x_aug, x_ifs, x_expr, x_app, x_raise, x_brk, x_cont, x_pass, x_retv, x_rete, evEs, evFs, evOs, evAs, evO, evT, evTs, evI, opnd, look, looks, slotD, share, ownD, isOwnL, bindT_one, Pv.setE, isMut, argFlags, slotsApart, argsIn, argIn, argsOut, permL, ioOp, outsOf, truthR, bop_addI, bop_subI, bop_pow10, cop, ordD, uop, bi, Pv.plain, Pv.fresh, subD_p0, subD_p1, bindT_eP, isMut_eP, R.ok_bind, itemsOf, bindT_eE, e]
    · obtain ⟨y4, y5, y6, y7, y8, rfl⟩ := he z
      exact ⟨_, _, _, _, _, _, _, rfl⟩
end Lw

end
section
namespace Lw
open PySem hiding Env
open Pv
theorem io_law_is_outer : f__law_is_outer.io = [false, false] := rfl
def pts (ps : List Pt) (i : Int) (l : List Int) : List Pt := (l.filter (fun j => decide (j ≠ i))).map (at_ ps)
def lawOuts (ps : List Pt) (l : List Int) : List Int := l.filter fun i => !badP (at_ ps i) (pts ps i l)
theorem near_sm {ps : List Pt} (h : Near ps) {i j : Int} (hi : 0 ≤ i ∧ i < ps.length) (hj : 0 ≤ j ∧ j < ps.length) : Sm2 (sub2 (at_ ps j) (at_ ps i)) := by
  have a := near_at h hi
  have b := near_at h hj
  unfold Sm2 Sm sub2
  refine ⟨⟨?_, ?_⟩, ?_, ?_⟩ <;> simp only <;> omega
theorem den_law_outer (ps : List Pt) (l : List Int) (hn : Near ps) (hl : ∀ j ∈ l, 0 ≤ j ∧ j < ps.length) (hz : l.length ≤ 10) :
    f__law_outer.den [.tuple (ps.map eP), .list (eI l)] = .ok true (.list (eI (lawOuts ps l))) [] := by
  have h1 : ∀ i ∈ l, evE (.lc (.sub (.var 0) (.var 3)) (.seq (.var 1)) (.one 3) (.cons (.val (.cmp .ne (.var 3) (.var 2))) .nil) [3]) [some (false, PyData.tuple (ps.map eP)), some (false, .list (eI l)), some (false, .int i), none] = .ok (true, .list (l.flatMap fun j => if decide (j ≠ i) then [eP (at_ ps j)] else []), [some (false, PyData.tuple (ps.map eP)), some (false, .list (eI l)), some (false, .int i), none]) := fun i hi => by
    refine ev_lc (enc := PyData.int) (l := l) (by simp [mkFn, exSs, e_var, e_k, e_bin, e_un, e_land, e_lor, e_cmp, e_chain, e_ite, e_tst, e_tup, e_lst, e_sub, e_slc, e_call, e_bi, e_pop, e_isi, x_set, x_setT, x_par, x_put, x_aug, x_ifs, x_expr, x_app, x_raise, x_brk, x_cont, x_pass, x_retv, x_rete, evEs, evFs, evOs, evAs, evO, evT, evTs, evI, opnd, look, looks, slotD, share, ownD, isOwnL, bindT_one, Pv.setE, isMut, argFlags, slotsApart, argsIn, argIn, argsOut, permL, ioOp, outsOf, truthR, bop_addI, bop_subI, bop_pow10, cop, ordD, uop, bi, Pv.plain, Pv.fresh, subD_p0, subD_p1, bindT_eP, isMut_eP, R.ok_bind, itemsOf, eI]) (by simp [ownOk]) (fun x hx acc ha => ?_) (fun _ => by split <;> simp) (by simp [SZ]; omega)
    by_cases hxi : x = i
    · subst hxi
      simp [lcStep, mkFn, exSs, e_var, e_k, e_bin, e_un, e_land, e_lor, e_cmp, e_chain, e_ite, e_tst, e_tup, e_lst, e_sub, e_slc, e_call, e_bi, e_pop, e_isi, x_set, x_setT, x_par, x_put, x_aug, x_ifs, x_expr, x_app, x_raise, x_brk, x_cont, x_pass, x_retv, x_rete, evEs, evFs, evOs, evAs, evO, evT, evTs, evI, opnd, look, looks, slotD, share, ownD, isOwnL, bindT_one, Pv.setE, isMut, argFlags, slotsApart, argsIn, argIn, argsOut, permL, ioOp, outsOf, truthR, bop_addI, bop_subI, bop_pow10, cop, ordD, uop, bi, Pv.plain, Pv.fresh, subD_p0, subD_p1, bindT_eP, isMut_eP, R.ok_bind, itemsOf, wipeE, wipeF, shaped_int, eqv_int]
    · simp [lcStep, mkFn, exSs, e_var, e_k, e_bin, e_un, e_land, e_lor, e_cmp, e_chain, e_ite, e_tst, e_tup, e_lst, e_sub, e_slc, e_call, e_bi, e_pop, e_isi, x_set, x_setT, x_par, x_put, x_aug, x_ifs, x_expr, x_app, x_raise, x_brk, x_cont, x_pass, x_retv, x_rete, evEs, evFs, evOs, evAs, evO, evT, evTs, evI, opnd, look, looks, slotD, share, ownD, isOwnL, bindT_one, Pv.setE, isMut, argFlags, slotsApart, argsIn, argIn, argsOut, permL, ioOp, outsOf, truthR, bop_addI, bop_subI, bop_pow10, cop, ordD, uop, bi, Pv.plain, Pv.fresh, subD_p0, subD_p1, bindT_eP, isMut_eP, R.ok_bind, itemsOf, ha, wipeE, wipeF, shaped_int, eqv_int, hxi, subD_at (hl x hx)]
  have h : evE (.lc (.var 2) (.seq (.var 1)) (.one 2) (.cons (.val (.call f__law_is_outer "_law_is_outer" (.cons (.sub (.var 0) (.var 2)) (.cons (.lc (.sub (.var 0) (.var 3)) (.seq (.var 1)) (.one 3) (.cons (.val (.cmp .ne (.var 3) (.var 2))) .nil) [3]) .nil)) [])) .nil) [2]) [some (false, PyData.tuple (ps.map eP)), some (false, .list (eI l)), none, none] = .ok (true, .list (l.flatMap fun i => if !badP (at_ ps i) (pts ps i l) then [.int i] else []), [some (false, PyData.tuple (ps.map eP)), some (false, .list (eI l)), none, none]) := by
    refine ev_lc (enc := PyData.int) (l := l) (by simp [mkFn, exSs, e_var, e_k, e_bin, e_un, e_land, e_lor, e_cmp, e_chain, e_ite, e_tst, e_tup, e_lst, e_sub, e_slc, e_call, e_bi, e_pop, e_isi, x_set, x_setT, x_par, x_put, x_aug, x_ifs, x_expr, x_app, x_raise, x_brk, x_cont, x_pass, x_retv, x_rete, evEs, evFs, evOs, evAs, evO, evT, evTs, evI, opnd, look, looks, slotD, share, ownD, isOwnL, bindT_one, Pv.setE, isMut, argFlags, slotsApart, argsIn, argIn, argsOut, permL, ioOp, outsOf, truthR, bop_addI, bop_subI, bop_pow10, cop, ordD, uop, bi, Pv.plain, Pv.fresh, subD_p0, subD_p1, bindT_eP, isMut_eP, R.ok_bind, itemsOf, eI]) (by simp [ownOk]) (fun x hx acc ha => ?_) (fun _ => by split <;> simp) (by simp [SZ]; omega)
    have e1 := h1 x hx
    rw [flatMap_filter, show (l.filter fun j => decide (j ≠ x)).map (fun j => eP (at_ ps j)) = (pts ps x l).map eP by unfold pts; rw [List.map_map]; rfl] at e1
    have hd := den_law_is_outer (at_ ps x) (pts ps x l) (fun q hq => by
      unfold pts at hq
      obtain ⟨j, hj, rfl⟩ := List.mem_map.mp hq
      exact near_sm hn (hl x hx) (hl j (List.mem_filter.mp hj).1)) (by unfold pts; rw [List.length_map]; exact Nat.le_trans (List.length_filter_le _ _) hz)
    cases hb : badP (at_ ps x) (pts ps x l) <;> rw [hb] at hd <;> simp [lcStep, mkFn, exSs, e_var, e_k, e_bin, e_un, e_land, e_lor, e_cmp, e_chain, e_ite, e_tst, e_tup, e_lst, e_sub, e_slc, e_call, e_bi, e_pop, e_isi, x_set, x_setT, x_par, x_put, x_aug, x_ifs, x_expr, x_app, x_raise, x_brk, x_cont, x_pass, x_retv, x_rete, evEs, evFs, evOs, evAs, evO, evT, evTs, evI, opnd, look, looks, slotD, share, ownD, isOwnL, bindT_one, Pv.setE, isMut, argFlags, slotsApart, argsIn, argIn, argsOut, permL, ioOp, outsOf, truthR, bop_addI, bop_subI, bop_pow10, cop, ordD, uop, bi, Pv.plain, Pv.fresh, subD_p0, subD_p1, bindT_eP, isMut_eP, R.ok_bind, itemsOf, ha, wipeE, wipeF, e1, subD_at (hl x hx), io_law_is_outer, hd]
  rw [flatMap_filter] at h
  simp [f__law_outer, k__law_outer, mkFn, exSs, e_var, e_k, e_bin, e_un, e_land, e_lor, e_cmp, e_chain, e_ite, e_tst, e_tup, e_lst, e_sub, e_slc, e_call, e_bi, e_pop, e_isi, x_set, x_setT, x_par, x_put, x_aug, x_ifs, x_expr, x_app, x_raise, x_brk, x_cont, x_pass, x_retv, x_rete, evEs, evFs, evOs, evAs, evO, evT, evTs, evI, opnd, look, looks, slotD, share, ownD, isOwnL, bindT_one, Pv.setE, isMut, argFlags, slotsApart, argsIn, argIn, argsOut, permL, ioOp, outsOf, truthR, bop_addI, bop_subI, bop_pow10, cop, ordD, uop, bi, Pv.plain, Pv.fresh, subD_p0, subD_p1, bindT_eP, isMut_eP, R.ok_bind, itemsOf, h]
  rfl
theorem io_law_outer : f__law_outer.io = [false, false] := rfl

/-! drawing -/
/-- a feed that has drawn at most n times -/
structure Fd (n : Nat) (d : D) : Prop where
  ex : ∃ a b c : Int, d = .list [.int a, .int b, .int c] ∧ 0 ≤ a ∧ 0 ≤ b ∧ b < 10 ^ 40 ∧ 0 ≤ c ∧ c ≤ n
theorem Fd.mono {n m : Nat} {d : D} (h : Fd n d) (l : n ≤ m) : Fd m d := by
  obtain ⟨a, b, c, h1, h2, h3, h4, h5, h6⟩ := h.ex
  exact ⟨a, b, c, h1, h2, h3, h4, h5, by omega⟩
theorem bitL_lt {i : Int} {k : Nat} (h : i.natAbs < 2 ^ k) (hk : 0 < k) : bitL i < k := by
  unfold bitL
  by_cases h0 : i.natAbs = 0
  · rw [h0]; simpa using hk
  · exact (Nat.log2_lt h0).mpr h
theorem bop_mulB {i j : Int} {a b : Nat} (hi : i.natAbs < 2 ^ a) (hj : j.natAbs < 2 ^ b) (ha : 0 < a) (hb : 0 < b) (h : a + b ≤ 1000) : bop .mul (.int i) (.int j) = .ok (false, .int (i * j)) := by
  have h1 := bitL_lt hi ha
  have h2 := bitL_lt hj hb
  show (if bitL i + bitL j < 1000000 then Pv.plain _ else _) = _
  rw [if_pos (by omega)]
  rfl
theorem bop_modP {i j : Int} (h : 0 < j) : bop .mod (.int i) (.int j) = .ok (false, .int (i % j)) := by
  show (if 0 < j then Pv.plain _ else _) = _
  rw [if_pos h]
  rfl
theorem bop_divP {i j : Int} (h : 0 < j) (h2 : j < 1073741824) : bop .fdiv (.int i) (.int j) = .ok (false, .int (i / j)) := by
  show (if 0 < j ∧ j < 1073741824 then Pv.plain _ else _) = _
  rw [if_pos ⟨h, h2⟩]
  rfl
theorem subL3_0 (a b c : Int) : subD (.list [.int a, .int b, .int c]) (.int 0) = .ok (.int a) := rfl
theorem subL3_1 (a b c : Int) : subD (.list [.int a, .int b, .int c]) (.int 1) = .ok (.int b) := rfl
theorem subL3_2 (a b c : Int) : subD (.list [.int a, .int b, .int c]) (.int 2) = .ok (.int c) := rfl
theorem p43 : bop .pow (.int 10) (.int 43) = .ok (false, .int (10 ^ 43)) := bop_pow10 43 (by omega)
theorem p38 : bop .pow (.int 10) (.int 38) = .ok (false, .int (10 ^ 38)) := bop_pow10 38 (by omega)
theorem p39 : bop .pow (.int 10) (.int 39) = .ok (false, .int (10 ^ 39)) := bop_pow10 39 (by omega)
theorem p9 : bop .pow (.int 10) (.int 9) = .ok (false, .int (10 ^ 9)) := bop_pow10 9 (by omega)
theorem p18 : bop .pow (.int 10) (.int 18) = .ok (false, .int (10 ^ 18)) := bop_pow10 18 (by omega)
theorem den_draw {n : Nat} {d : D} (h : Fd n d) (hn : n < 10000) {m : Int} (h1 : 1 ≤ m) (h2 : m ≤ 100000) : ∃ v d', f__law_draw.den [d, .int m] = .ok false (.int v) [d'] ∧ 0 ≤ v ∧ v < m ∧ Fd (n + 1) d' := by
  obtain ⟨a, b, c, rfl, ha, hb, hb2, hc, hc2⟩ := h.ex
  by_cases h0 : 0 < a
  · refine ⟨a - a / m * m, .list [.int (a / m), .int b, .int c], ?_, ?_, ?_, ⟨a / m, b, c, rfl, Int.ediv_nonneg ha (by omega), hb, hb2, hc, by omega⟩⟩
    · have hm : bop .mul (.int (a / m)) (.int m) = .ok (false, .int (a / m * m)) := bop_mulS' ⟨by omega, by omega⟩
      simp [f__law_draw, k__law_draw, mkFn, exSs, e_var, e_k, e_bin, e_un, e_land, e_lor, e_cmp, e_chain, e_ite, e_tst, e_tup, e_lst, e_sub, e_slc, e_call, e_bi, e_pop, e_isi, x_set, x_setT, x_par, x_put, x_aug, x_ifs, x_expr, x_app, x_raise, x_brk, x_cont, x_pass, x_retv, x_rete, evEs, evFs, evOs, evAs, evO, evT, evTs, evI, opnd, look, looks, slotD, share, ownD, isOwnL, bindT_one, Pv.setE, isMut, argFlags, slotsApart, argsIn, argIn, argsOut, permL, ioOp, outsOf, truthR, bop_addI, bop_subI, bop_pow10, cop, ordD, uop, bi, Pv.plain, Pv.fresh, subD_p0, subD_p1, bindT_eP, isMut_eP, R.ok_bind, itemsOf, subL3_0, h0, bop_divP (i := a) (j := m) (by omega) (by omega), hm, ixD]
    · have := Int.emod_nonneg a (b := m) (by omega)
      have e := Int.mul_ediv_add_emod a m
      rw [Int.mul_comm] at e
      omega
    · have := Int.emod_lt_of_pos a (b := m) (by omega)
      have e := Int.mul_ediv_add_emod a m
      rw [Int.mul_comm] at e
      omega
  · have hz : a = 0 := by omega
    subst hz
    -- the stirred number
    generalize hs1 : b + 6700417 * (c + 1) = s1
    have s1a : 0 ≤ s1 := by omega
    have s1b : s1.natAbs < 2 ^ 140 := by
      have : s1 < 2 ^ 140 := by
        have e1 : (10 : Int) ^ 40 + 6700417 * 10001 < 2 ^ 140 := by decide
        omega
      omega
    have s1c : (s1 * s1).natAbs < 2 ^ 280 := by
      rw [Int.natAbs_mul, show (2 : Nat) ^ 280 = 2 ^ 140 * 2 ^ 140 by rw [← Nat.pow_add]]
      exact Nat.mul_lt_mul'' s1b s1b
    generalize hs2 : (s1 * s1 * s1 + 15485863 * (c + 1)) % (10 ^ 43 + 57) = s2
    have s2a : 0 ≤ s2 := by rw [← hs2]; exact Int.emod_nonneg _ (by decide)
    have s2b : s2.natAbs < 2 ^ 145 := by
      have : s2 < 10 ^ 43 + 57 := by rw [← hs2]; exact Int.emod_lt_of_pos _ (by decide)
      have e1 : (10 : Int) ^ 43 + 57 < 2 ^ 145 := by decide
      omega
    generalize hs3 : (s2 * s2 + 32452843) % (10 ^ 38 + 133) = s3
    refine ⟨s3 / 10 ^ 9 % m, .list [.int 0, .int b, .int (c + 1)], ?_, Int.emod_nonneg _ (by omega), Int.emod_lt_of_pos _ (by omega), ⟨0, b, c + 1, rfl, by omega, hb, hb2, by omega, by omega⟩⟩
    have q1 : bop .mul (.int 6700417) (.int (c + 1)) = .ok (false, .int (6700417 * (c + 1))) := bop_mulS ⟨by decide, by decide⟩
    have q2 : bop .mul (.int 15485863) (.int (c + 1)) = .ok (false, .int (15485863 * (c + 1))) := bop_mulS ⟨by decide, by decide⟩
    have q3 := bop_mulB s1b s1b (by omega) (by omega) (by omega)
    have q4 := bop_mulB s1c s1b (by omega) (by omega) (by omega)
    have q5 := bop_mulB s2b s2b (by omega) (by omega) (by omega)
    have r1 : bop .mod (.int (s1 * s1 * s1 + 15485863 * (c + 1))) (.int (10 ^ 43 + 57)) = .ok (false, .int s2) := by rw [← hs2]; exact bop_modP (by decide)
    have r2 : bop .mod (.int (s2 * s2 + 32452843)) (.int (10 ^ 38 + 133)) = .ok (false, .int s3) := by rw [← hs3]; exact bop_modP (by decide)
    have r3 : bop .fdiv (.int s3) (.int (10 ^ 9)) = .ok (false, .int (s3 / 10 ^ 9)) := bop_divP (by decide) (by decide)
    have r4 : bop .mod (.int (s3 / 10 ^ 9)) (.int m) = .ok (false, .int (s3 / 10 ^ 9 % m)) := bop_modP (by omega)
    simp [f__law_draw, k__law_draw, mkFn, exSs, e_var, e_k, e_bin, e_un, e_land, e_lor, e_cmp, e_chain, e_ite, e_tst, e_tup, e_lst, e_sub, e_slc, e_call, e_bi, e_pop, e_isi, x_set, x_setT, x_par, x_put, x_aug, x_ifs, x_expr, x_app, x_raise, x_brk, x_cont, x_pass, x_retv, x_rete, evEs, evFs, evOs, evAs, evO, evT, evTs, evI, opnd, look, looks, slotD, share, ownD, isOwnL, bindT_one, Pv.setE, isMut, argFlags, slotsApart, argsIn, argIn, argsOut, permL, ioOp, outsOf, truthR, bop_addI, bop_subI, bop_pow10, cop, ordD, uop, bi, Pv.plain, Pv.fresh, subD_p0, subD_p1, bindT_eP, isMut_eP, R.ok_bind, itemsOf, subL3_0, subL3_1, subL3_2, ixD, q1, hs1, q2, q3, q4, q5, p43, p38, p9, -Int.reducePow, -Int.reduceAdd, r1, r2, r3, r4]
theorem io_draw : f__law_draw.io = [true, false] := rfl
theorem len_e {α : Type} (l : List α) (e : α → D) : (l.map e).length = l.length := List.length_map _
/-- one of them -/
theorem den_one {n : Nat} {d : D} (h : Fd n d) (hn : n < 10000) (xs : List D) (hx : xs ≠ []) (hl : xs.length ≤ 1000) : ∃ i d', f__law_one.den [d, .list xs] = .ok false (xs.getD i .none) [d'] ∧ i < xs.length ∧ Fd (n + 1) d' := by
  have h0 : 0 < xs.length := List.length_pos_iff.mpr hx
  obtain ⟨v, d', e, h1, h2, h3⟩ := den_draw h hn (m := (xs.length : Int)) (by omega) (by omega)
  refine ⟨v.toNat, d', ?_, by omega, h3⟩
  have es : subD (.list xs) (.int v) = .ok (xs.getD v.toNat .none) := by
    have hv : v.toNat < xs.length := by omega
    show (match (ixD xs.length v).bind (xs[·]?) with | some d => R.ok d | none => .bad) = _
    unfold ixD
    rw [if_pos h1, if_pos h2]
    simp [List.getElem?_eq_getElem hv]
  obtain ⟨a, b, c, rfl, _⟩ := h.ex
  obtain ⟨a', b', c', rfl, _⟩ := h3.ex
  simp [f__law_one, k__law_one, mkFn, exSs, e_var, e_k, e_bin, e_un, e_land, e_lor, e_cmp, e_chain, e_ite, e_tst, e_tup, e_lst, e_sub, e_slc, e_call, e_bi, e_pop, e_isi, x_set, x_setT, x_par, x_put, x_aug, x_ifs, x_expr, x_app, x_raise, x_brk, x_cont, x_pass, x_retv, x_rete, evEs, evFs, evOs, evAs, evO, evT, evTs, evI, opnd, look, looks, slotD, share, ownD, isOwnL, bindT_one, Pv.setE, isMut, argFlags, slotsApart, argsIn, argIn, argsOut, permL, ioOp, outsOf, truthR, bop_addI, bop_subI, bop_pow10, cop, ordD, uop, bi, Pv.plain, Pv.fresh, subD_p0, subD_p1, bindT_eP, isMut_eP, R.ok_bind, itemsOf, io_draw, e, es]
theorem io_one : f__law_one.io = [true, false] := rfl
/-- a part of them -/
noncomputable def someStep : D → List D × Pv.Env → R (List D × Pv.Env) := lcStep [3] (fun d r => bindT r (.one 3) d) (evTs (.cons (.val (.cmp .eq (.call f__law_draw "_law_draw" (.cons (.var 0) (.cons (.var 2) .nil)) []) (.k (.int 0)))) .nil)) (evE (.var 3))
theorem some_step {ys : D} {d d1 : D} {v x : Int} (e : f__law_draw.den [d, .int 2] = .ok false (.int v) [d1]) (acc : List Int) (ha : acc.length ≤ 1000) : someStep (.int x) (eI acc, [some (true, d), some (false, ys), some (false, .int 2), none]) =
    .ok (eI (if v = 0 then acc ++ [x] else acc), [some (true, d1), some (false, ys), some (false, .int 2), none]) := by
  have hacc : (eI acc).length < SZ := by simp [eI, SZ]; omega
  have e2 : eI acc ++ [.int x] = eI (acc ++ [x]) := by simp [eI]
  unfold someStep
  by_cases hv : v = 0
  · subst hv
    simp [lcStep, mkFn, exSs, e_var, e_k, e_bin, e_un, e_land, e_lor, e_cmp, e_chain, e_ite, e_tst, e_tup, e_lst, e_sub, e_slc, e_call, e_bi, e_pop, e_isi, x_set, x_setT, x_par, x_put, x_aug, x_ifs, x_expr, x_app, x_raise, x_brk, x_cont, x_pass, x_retv, x_rete, evEs, evFs, evOs, evAs, evO, evT, evTs, evI, opnd, look, looks, slotD, share, ownD, isOwnL, bindT_one, Pv.setE, isMut, argFlags, slotsApart, argsIn, argIn, argsOut, permL, ioOp, outsOf, truthR, bop_addI, bop_subI, bop_pow10, cop, ordD, uop, bi, Pv.plain, Pv.fresh, subD_p0, subD_p1, bindT_eP, isMut_eP, R.ok_bind, itemsOf, io_draw, e, shaped_int, eqv_int, hacc, wipeE, wipeF, e2]
  · simp [lcStep, mkFn, exSs, e_var, e_k, e_bin, e_un, e_land, e_lor, e_cmp, e_chain, e_ite, e_tst, e_tup, e_lst, e_sub, e_slc, e_call, e_bi, e_pop, e_isi, x_set, x_setT, x_par, x_put, x_aug, x_ifs, x_expr, x_app, x_raise, x_brk, x_cont, x_pass, x_retv, x_rete, evEs, evFs, evOs, evAs, evO, evT, evTs, evI, opnd, look, looks, slotD, share, ownD, isOwnL, bindT_one, Pv.setE, isMut, argFlags, slotsApart, argsIn, argIn, argsOut, permL, ioOp, outsOf, truthR, bop_addI, bop_subI, bop_pow10, cop, ordD, uop, bi, Pv.plain, Pv.fresh, subD_p0, subD_p1, bindT_eP, isMut_eP, R.ok_bind, itemsOf, io_draw, e, shaped_int, eqv_int, hv, wipeE, wipeF]
theorem fold_some {ys : D} : ∀ (xs acc : List Int) (n : Nat) (d : D), Fd n d → n + xs.length < 9000 → acc.length + xs.length ≤ 1000 →
    ∃ (zs : List Int) (d' : D), foldR someStep (eI xs) (eI acc, [some (true, d), some (false, ys), some (false, .int 2), none]) = .ok (eI (acc ++ zs), [some (true, d'), some (false, ys), some (false, .int 2), none]) ∧ zs.Sublist xs ∧ Fd (n + xs.length) d'
  | [], acc, n, d, h, _, _ => ⟨[], d, by simp [foldR, eI], List.Sublist.refl _, h⟩
  | x :: xs, acc, n, d, h, hn, hl => by
    simp only [List.length_cons] at hn hl
    obtain ⟨v, d1, e, h1, h2, h3⟩ := den_draw h (by omega) (m := 2) (by omega) (by omega)
    have st := some_step (ys := ys) (x := x) e acc (by omega)
    obtain ⟨zs, d', e2, h4, h5⟩ := fold_some xs (if v = 0 then acc ++ [x] else acc) (n + 1) d1 h3 (by omega) (by split <;> (try simp) <;> omega)
    have e3 : foldR someStep (eI (x :: xs)) (eI acc, [some (true, d), some (false, ys), some (false, .int 2), none]) = .ok (eI ((if v = 0 then acc ++ [x] else acc) ++ zs), [some (true, d'), some (false, ys), some (false, .int 2), none]) := by
      rw [show eI (x :: xs) = .int x :: eI xs from rfl, foldR, st]
      exact e2
    rw [e3]
    by_cases hv : v = 0
    · refine ⟨x :: zs, d', ?_, h4.cons₂ x, by rw [List.length_cons]; exact h5.mono (by omega)⟩
      simp [hv]
    · refine ⟨zs, d', ?_, h4.cons x, by rw [List.length_cons]; exact h5.mono (by omega)⟩
      simp [hv]
theorem den_some {n : Nat} {d : D} (h : Fd n d) (xs : List Int) (hl : xs.length ≤ 10) (hn : n < 5000) : ∃ (zs : List Int) (d' : D), f__law_some.den [d, .list (eI xs), .int 2] = .ok false (.tuple (eI zs)) [d'] ∧ zs.Sublist xs ∧ Fd (n + 10) d' := by
  obtain ⟨zs, d', e, h1, h2⟩ := fold_some (ys := .list (eI xs)) xs [] n d h (by omega) (by simp; omega)
  refine ⟨zs, d', ?_, h1, h2.mono (by omega)⟩
  have hlc : evE (.lc (.var 3) (.seq (.var 1)) (.one 3) (.cons (.val (.cmp .eq (.call f__law_draw "_law_draw" (.cons (.var 0) (.cons (.var 2) .nil)) []) (.k (.int 0)))) .nil) [3]) [some (true, d), some (false, .list (eI xs)), some (false, .int 2), none] = .ok (true, .list (eI zs), [some (true, d'), some (false, .list (eI xs)), some (false, .int 2), none]) := by
    rw [evE]
    have ei : evI (.seq (.var 1)) [some (true, d), some (false, .list (eI xs)), some (false, .int 2), none] = .ok (eI xs, [some (true, d), some (false, .list (eI xs)), some (false, .int 2), none]) := by simp [mkFn, exSs, e_var, e_k, e_bin, e_un, e_land, e_lor, e_cmp, e_chain, e_ite, e_tst, e_tup, e_lst, e_sub, e_slc, e_call, e_bi, e_pop, e_isi, x_set, x_setT, x_par, x_put, x_aug, x_ifs, x_expr, x_app, x_raise, x_brk, x_cont, x_pass, x_retv, x_rete, evEs, evFs, evOs, evAs, evO, evT, evTs, evI, opnd, look, looks, slotD, share, ownD, isOwnL, bindT_one, Pv.setE, isMut, argFlags, slotsApart, argsIn, argIn, argsOut, permL, ioOp, outsOf, truthR, bop_addI, bop_subI, bop_pow10, cop, ordD, uop, bi, Pv.plain, Pv.fresh, subD_p0, subD_p1, bindT_eP, isMut_eP, R.ok_bind, itemsOf]
    rw [ei]
    show (if ownOk [3] [some (true, d), some (false, .list (eI xs)), some (false, .int 2), none] = true then (foldR someStep (eI xs) ([], [some (true, d), some (false, .list (eI xs)), some (false, .int 2), none]) >>= _) else R.bad) = _
    rw [if_pos (by simp [ownOk]), show ([] : List D) = eI [] from rfl, e]
    simp [backE, backF]
  simp [f__law_some, k__law_some, mkFn, exSs, e_var, e_k, e_bin, e_un, e_land, e_lor, e_cmp, e_chain, e_ite, e_tst, e_tup, e_lst, e_sub, e_slc, e_call, e_bi, e_pop, e_isi, x_set, x_setT, x_par, x_put, x_aug, x_ifs, x_expr, x_app, x_raise, x_brk, x_cont, x_pass, x_retv, x_rete, evEs, evFs, evOs, evAs, evO, evT, evTs, evI, opnd, look, looks, slotD, share, ownD, isOwnL, bindT_one, Pv.setE, isMut, argFlags, slotsApart, argsIn, argIn, argsOut, permL, ioOp, outsOf, truthR, bop_addI, bop_subI, bop_pow10, cop, ordD, uop, bi, Pv.plain, Pv.fresh, subD_p0, subD_p1, bindT_eP, isMut_eP, R.ok_bind, itemsOf, hlc]
theorem io_some : f__law_some.io = [true, false, false] := rfl
end Lw

end
section
namespace Lw
open PySem hiding Env
open Pv
theorem subL_int {ns : List Int} {k : Nat} (h : k < ns.length) : subD (.list (eI ns)) (.int (k : Int)) = .ok (.int (ns.getD k 0)) := by
  show (match (ixD (eI ns).length (k : Int)).bind ((eI ns)[·]?) with | some d => R.ok d | none => .bad) = _
  unfold ixD
  rw [if_pos (by omega), if_pos (by simp [eI]; omega)]
  simp [eI, List.getElem?_eq_getElem h]
theorem take_eI (ns : List Int) (k : Nat) : (eI ns).take k = eI (ns.take k) := by simp [eI]
theorem den_feed (ns : List Int) (k : Nat) (hk : k < 1000) (hl : ns.length ≤ 63) : ∃ d, f__law_feed.den [.list (eI ns), .int (k : Int)] = .ok true d [] ∧ Fd 0 d := by
  have c1 : cutD (eI ns) none (some 1) = eI (ns.take 1) := by rw [← take_eI]; exact cut_to _ 1
  have m1 : bop .mul (.int 977) (.int (k : Int)) = .ok (false, .int (977 * k)) := bop_mulS ⟨by decide, by decide⟩
  have m3 : bop .mul (.int 7) (.int (k : Int)) = .ok (false, .int (7 * k)) := bop_mulS ⟨by decide, by decide⟩
  have m2 : ∀ c : Int, bop .mul (.int c) (.int 19) = .ok (false, .int (c * 19)) := fun c => bop_mulS' ⟨by decide, by decide⟩
  have md : ∀ c : Int, bop .mod (.int c) (.int (10 ^ 39 + 23)) = .ok (false, .int (c % (10 ^ 39 + 23))) := fun c => bop_modP (by decide)
  have fin : ∀ c : Int, Fd 0 (.list [.int (if c - 10 ^ 18 > 0 then c - 10 ^ 18 else 0), .int ((c * 19 + 7 * k) % (10 ^ 39 + 23)), .int 0]) := fun c =>
    ⟨_, _, _, rfl, by split <;> omega, Int.emod_nonneg _ (by decide), Int.lt_trans (Int.emod_lt_of_pos _ (by decide)) (by decide), by omega, by omega⟩
  by_cases h : k < ns.length
  · refine ⟨_, ?_, fin (ns.getD k 0)⟩
    have hlen : (k : Int) < ((eI ns).length : Int) := by simp [eI]; omega
    simp [f__law_feed, k__law_feed, mkFn, exSs, e_var, e_k, e_bin, e_un, e_land, e_lor, e_cmp, e_chain, e_ite, e_tst, e_tup, e_lst, e_sub, e_slc, e_call, e_bi, e_pop, e_isi, x_set, x_setT, x_par, x_put, x_aug, x_ifs, x_expr, x_app, x_raise, x_brk, x_cont, x_pass, x_retv, x_rete, evEs, evFs, evOs, evAs, evO, evT, evTs, evI, opnd, look, looks, slotD, share, ownD, isOwnL, bindT_one, Pv.setE, isMut, argFlags, slotsApart, argsIn, argIn, argsOut, permL, ioOp, outsOf, truthR, bop_addI, bop_subI, bop_pow10, cop, ordD, uop, bi, Pv.plain, Pv.fresh, subD_p0, subD_p1, bindT_eP, isMut_eP, R.ok_bind, itemsOf, slcD, c1, intsOf_eI, m1, m2, m3, md, p18, p39, subL_int h, hlen, -Int.reducePow, -Int.reduceAdd, -Int.reduceSub]
  · refine ⟨_, ?_, fin (977 * k + (ns.take 1).sum)⟩
    have hlen : ¬ (k : Int) < ((eI ns).length : Int) := by simp [eI]; omega
    simp [f__law_feed, k__law_feed, mkFn, exSs, e_var, e_k, e_bin, e_un, e_land, e_lor, e_cmp, e_chain, e_ite, e_tst, e_tup, e_lst, e_sub, e_slc, e_call, e_bi, e_pop, e_isi, x_set, x_setT, x_par, x_put, x_aug, x_ifs, x_expr, x_app, x_raise, x_brk, x_cont, x_pass, x_retv, x_rete, evEs, evFs, evOs, evAs, evO, evT, evTs, evI, opnd, look, looks, slotD, share, ownD, isOwnL, bindT_one, Pv.setE, isMut, argFlags, slotsApart, argsIn, argIn, argsOut, permL, ioOp, outsOf, truthR, bop_addI, bop_subI, bop_pow10, cop, ordD, uop, bi, Pv.plain, Pv.fresh, subD_p0, subD_p1, bindT_eP, isMut_eP, R.ok_bind, itemsOf, slcD, c1, intsOf_eI, m1, m2, m3, md, p18, p39, hlen, -Int.reducePow, -Int.reduceAdd, -Int.reduceSub]
theorem io_feed : f__law_feed.io = [false, false] := rfl
theorem forL_inv {step : D → Pv.Env → R (Fl × Pv.Env)} {I : Nat → Pv.Env → Prop} : ∀ (l : List D) (i : Nat) (r : Pv.Env), (∀ j x r, j < i + l.length → I j r → ∃ r', step x r = .ok (.next, r') ∧ I (j + 1) r') → I i r → ∃ r', forL step l r = .ok (.next, r') ∧ I (i + l.length) r'
  | [], i, r, _, h => ⟨r, rfl, h⟩
  | x :: l, i, r, hs, h => by
    obtain ⟨r1, e1, h1⟩ := hs i x r (by simp) h
    obtain ⟨r2, e2, h2⟩ := forL_inv l (i + 1) r1 (fun j y r hj => hs j y r (by simp at hj ⊢; omega)) h1
    refine ⟨r2, ?_, by rw [List.length_cons]; rw [show i + (l.length + 1) = i + 1 + l.length by omega]; exact h2⟩
    rw [forL, e1]
    exact e2
def stepsL : List Pt := [(1, 0), (0, 1), (3, -2), (5, 7), (-1, -1)]
def aroundL : List Pt := [(0, 5), (3, 4), (4, 3), (5, 0), (4, -3), (0, -5), (-3, -4), (-5, 0), (-4, 3)]
theorem getD_pts (l : List Pt) (i : Nat) (h : i < l.length) : (l.map eP).getD i .none = eP (l.getD i (0, 0)) ∧ l.getD i (0, 0) ∈ l := by
  rw [List.getD_eq_getElem?_getD, List.getD_eq_getElem?_getD, List.getElem?_map, List.getElem?_eq_getElem h]
  exact ⟨rfl, List.getElem_mem h⟩
def NearP (q : Pt) : Prop := (-1000 ≤ q.1 ∧ q.1 ≤ 1000) ∧ (-1000 ≤ q.2 ∧ q.2 ≤ 1000)
theorem any_pts (ps : List Pt) (q : Pt) : (ps.map eP).any (fun z => PyData.eqv z (eP q)) = decide (q ∈ ps) := by
  rw [List.any_map]
  rw [Bool.eq_iff_iff]
  simp [Function.comp_def, eqv_pt, List.any_eq_true]
theorem notin_pts (ps : List Pt) (q : Pt) : isinD (eP q) (.list (ps.map eP)) = .ok (decide (q ∈ ps)) := by
  show (if SeqAt.shaped (eP q) && SeqAt.shaped (.list (ps.map eP)) then R.ok _ else .bad) = _
  rw [shaped_pt, (shaped_pts ps).1, any_pts]
  rfl
noncomputable def turnB : List CS := [.set 8 (.bin .sub (.call f__law_draw "_law_draw" (.cons (.var 0) (.cons (.k (.int 41)) .nil)) []) (.k (.int 20))),
  .set 9 (.tup (.cons (.bin .sub (.call f__law_draw "_law_draw" (.cons (.var 0) (.cons (.k (.int 2001)) .nil)) []) (.k (.int 1000))) (.cons (.bin .sub (.call f__law_draw "_law_draw" (.cons (.var 0) (.cons (.k (.int 2001)) .nil)) []) (.k (.int 1000))) .nil))),
  .set 10 (.tup (.cons (.call f__law_draw "_law_draw" (.cons (.var 0) (.cons (.k (.int 4)) .nil)) []) (.cons (.call f__law_draw "_law_draw" (.cons (.var 0) (.cons (.k (.int 3)) .nil)) []) .nil))),
  .set 11 (.sub (.lst (.cons (.var 10) (.cons (.var 10) (.cons (.tup (.cons (.bin .add (.sub (.var 4) (.k (.int 0))) (.bin .mul (.var 8) (.sub (.var 5) (.k (.int 0))))) (.cons (.bin .add (.sub (.var 4) (.k (.int 1))) (.bin .mul (.var 8) (.sub (.var 5) (.k (.int 1))))) .nil))) (.cons (.call f__law_one "_law_one" (.cons (.var 0) (.cons (.var 6) .nil)) []) (.cons (.var 9) .nil)))))) (.var 2)),
  .ifs (.val (.cmp .notin (.var 11) (.var 3))) [.app 3 (.var 11)] []]
abbrev envP (d : D) (way : Int) (ps : List Pt) (st sp : Pt) (ba : Bool) (x7 x8 x9 x10 x11 : Option (Bool × D)) : Pv.Env := [some (true, d), some (false, .int 7), some (false, .int way), some (true, .list (ps.map eP)), some (false, eP st), some (false, eP sp), some (ba, .list (aroundL.map eP)), x7, x8, x9, x10, x11]
theorem sub5 (a b c e f : Pt) (way : Int) (h1 : 0 ≤ way) (h2 : way < 5) : ∃ q ∈ [a, b, c, e, f], subD (.list [eP a, eP b, eP c, eP e, eP f]) (.int way) = .ok (eP q) := by
  have : way = 0 ∨ way = 1 ∨ way = 2 ∨ way = 3 ∨ way = 4 := by omega
  rcases this with rfl | rfl | rfl | rfl | rfl
  · exact ⟨a, by simp, rfl⟩
  · exact ⟨b, by simp, rfl⟩
  · exact ⟨c, by simp, rfl⟩
  · exact ⟨e, by simp, rfl⟩
  · exact ⟨f, by simp, rfl⟩
theorem turn_ok {n : Nat} {d : D} (hd : Fd n d) (hn : n < 5000) {way : Int} (w1 : 0 ≤ way) (w2 : way < 5) (ps : List Pt) (hl : ps.length ≤ 100) {st sp : Pt} (hst : -100 ≤ st.1 ∧ st.1 ≤ 100 ∧ -100 ≤ st.2 ∧ st.2 ≤ 100) (hsp : -7 ≤ sp.1 ∧ sp.1 ≤ 7 ∧ -7 ≤ sp.2 ∧ sp.2 ≤ 7) (ba : Bool) (x7 x8 x9 x10 x11 : Option (Bool × D)) :
    ∃ (q : Pt) (d' : D) (y8 y9 y10 y11 : Option (Bool × D)), exSs turnB (envP d way ps st sp ba x7 x8 x9 x10 x11) = .ok (.next, envP d' way (if q ∈ ps then ps else ps ++ [q]) st sp false x7 y8 y9 y10 y11) ∧ NearP q ∧ Fd (n + 6) d' := by
  obtain ⟨v1, d1, e1, a1, b1, f1⟩ := den_draw hd (by omega) (m := 41) (by omega) (by omega)
  obtain ⟨v2, d2, e2, a2, b2, f2⟩ := den_draw f1 (by omega) (m := 2001) (by omega) (by omega)
  obtain ⟨v3, d3, e3, a3, b3, f3⟩ := den_draw f2 (by omega) (m := 2001) (by omega) (by omega)
  obtain ⟨v4, d4, e4, a4, b4, f4⟩ := den_draw f3 (by omega) (m := 4) (by omega) (by omega)
  obtain ⟨v5, d5, e5, a5, b5, f5⟩ := den_draw f4 (by omega) (m := 3) (by omega) (by omega)
  obtain ⟨i, d6, e6, hi, f6⟩ := den_one f5 (by omega) (aroundL.map eP) (by decide) (by simp [aroundL])
  obtain ⟨g1, g2⟩ := getD_pts aroundL i (by simpa using hi)
  rw [g1] at e6
  generalize hq : aroundL.getD i (0, 0) = ar at *
  have har : -5 ≤ ar.1 ∧ ar.1 ≤ 5 ∧ -5 ≤ ar.2 ∧ ar.2 ≤ 5 := by
    have : ∀ q ∈ aroundL, -5 ≤ q.1 ∧ q.1 ≤ 5 ∧ -5 ≤ q.2 ∧ q.2 ≤ 5 := by decide
    exact this ar g2
  have m1 : bop .mul (.int (v1 - 20)) (.int sp.1) = .ok (false, .int ((v1 - 20) * sp.1)) := bop_mulS ⟨by omega, by omega⟩
  have m2 : bop .mul (.int (v1 - 20)) (.int sp.2) = .ok (false, .int ((v1 - 20) * sp.2)) := bop_mulS ⟨by omega, by omega⟩
  have bd : ∀ s : Int, -7 ≤ s → s ≤ 7 → -140 ≤ (v1 - 20) * s ∧ (v1 - 20) * s ≤ 140 := fun s h1 h2 => by
    have : s = -7 ∨ s = -6 ∨ s = -5 ∨ s = -4 ∨ s = -3 ∨ s = -2 ∨ s = -1 ∨ s = 0 ∨ s = 1 ∨ s = 2 ∨ s = 3 ∨ s = 4 ∨ s = 5 ∨ s = 6 ∨ s = 7 := by omega
    rcases this with rfl | rfl | rfl | rfl | rfl | rfl | rfl | rfl | rfl | rfl | rfl | rfl | rfl | rfl | rfl <;> omega
  have bd1 := bd sp.1 hsp.1 hsp.2.1
  have bd2 := bd sp.2 hsp.2.2.1 hsp.2.2.2
  obtain ⟨q, hq1, hq2⟩ := sub5 (v4, v5) (v4, v5) (st.1 + (v1 - 20) * sp.1, st.2 + (v1 - 20) * sp.2) ar (v2 - 1000, v3 - 1000) way w1 w2
  have hlen : (ps.map eP).length < SZ := by rw [List.length_map]; unfold SZ; omega
  have hlen' : ps.length < SZ := by unfold SZ; omega
  have happ : ps.map eP ++ [eP q] = (ps ++ [q]).map eP := by simp
  refine ⟨q, d6, some (false, .int (v1 - 20)), some (false, eP (v2 - 1000, v3 - 1000)), some (false, eP (v4, v5)), some (false, eP q), ?_, ?_, f6⟩
  · by_cases hm : q ∈ ps
    · simp [turnB, mkFn, exSs, e_var, e_k, e_bin, e_un, e_land, e_lor, e_cmp, e_chain, e_ite, e_tst, e_tup, e_lst, e_sub, e_slc, e_call, e_bi, e_pop, e_isi, x_set, x_setT, x_par, x_put, x_aug, x_ifs, x_expr, x_app, x_raise, x_brk, x_cont, x_pass, x_retv, x_rete, evEs, evFs, evOs, evAs, evO, evT, evTs, evI, opnd, look, looks, slotD, share, ownD, isOwnL, bindT_one, Pv.setE, isMut, argFlags, slotsApart, argsIn, argIn, argsOut, permL, ioOp, outsOf, truthR, bop_addI, bop_subI, bop_pow10, cop, ordD, uop, bi, Pv.plain, Pv.fresh, subD_p0, subD_p1, bindT_eP, isMut_eP, R.ok_bind, itemsOf, io_draw, io_one, e1, e2, e3, e4, e5, e6, eP_mk, m1, m2, hq2, notin_pts, hm]
    · simp [turnB, mkFn, exSs, e_var, e_k, e_bin, e_un, e_land, e_lor, e_cmp, e_chain, e_ite, e_tst, e_tup, e_lst, e_sub, e_slc, e_call, e_bi, e_pop, e_isi, x_set, x_setT, x_par, x_put, x_aug, x_ifs, x_expr, x_app, x_raise, x_brk, x_cont, x_pass, x_retv, x_rete, evEs, evFs, evOs, evAs, evO, evT, evTs, evI, opnd, look, looks, slotD, share, ownD, isOwnL, bindT_one, Pv.setE, isMut, argFlags, slotsApart, argsIn, argIn, argsOut, permL, ioOp, outsOf, truthR, bop_addI, bop_subI, bop_pow10, cop, ordD, uop, bi, Pv.plain, Pv.fresh, subD_p0, subD_p1, bindT_eP, isMut_eP, R.ok_bind, itemsOf, io_draw, io_one, e1, e2, e3, e4, e5, e6, eP_mk, m1, m2, hq2, notin_pts, hm, hlen']
  · unfold NearP
    simp at hq1
    rcases hq1 with rfl | rfl | rfl | rfl | rfl <;> (try simp only) <;> omega
theorem nodup_snoc {ps : List Pt} {q : Pt} (h : ps.Nodup) (hq : q ∉ ps) : (ps ++ [q]).Nodup := by
  rw [List.nodup_append]
  exact ⟨h, by simp, fun a ha b hb e => by simp at hb; subst hb; subst e; exact hq ha⟩
theorem den_points {n : Nat} {d : D} (hd : Fd n d) (hn : n < 1000) : ∃ (ps : List Pt) (d' : D), f__law_points.den [d, .int 7] = .ok false (.tuple (ps.map eP)) [d'] ∧ Good ps ∧ Fd (n + 47) d' := by
  obtain ⟨way, d1, e1, a1, b1, f1⟩ := den_draw hd (by omega) (m := 5) (by omega) (by omega)
  obtain ⟨s1, d2, e2, a2, b2, f2⟩ := den_draw f1 (by omega) (m := 201) (by omega) (by omega)
  obtain ⟨s2, d3, e3, a3, b3, f3⟩ := den_draw f2 (by omega) (m := 201) (by omega) (by omega)
  obtain ⟨i, d4, e4, hi, f4⟩ := den_one f3 (by omega) (stepsL.map eP) (by decide) (by simp [stepsL])
  obtain ⟨g1, g2⟩ := getD_pts stepsL i (by simpa using hi)
  rw [g1] at e4
  generalize hq : stepsL.getD i (0, 0) = sp at *
  have hsp : -7 ≤ sp.1 ∧ sp.1 ≤ 7 ∧ -7 ≤ sp.2 ∧ sp.2 ≤ 7 := by
    have : ∀ q ∈ stepsL, -7 ≤ q.1 ∧ q.1 ≤ 7 ∧ -7 ≤ q.2 ∧ q.2 ≤ 7 := by decide
    exact this sp g2
  obtain ⟨m, d5, e5, a5, b5, f5⟩ := den_draw f4 (by omega) (m := 7) (by omega) (by omega)
  have hst : -100 ≤ (s1 - 100, s2 - 100).1 ∧ (s1 - 100, s2 - 100).1 ≤ 100 ∧ -100 ≤ (s1 - 100, s2 - 100).2 ∧ (s1 - 100, s2 - 100).2 ≤ 100 := by simp only; omega
  have loop := forL_inv (step := fun x r => bindT r (.one 7) x >>= fun r1 => exSs turnB r1) (I := fun j r => ∃ (ps : List Pt) (d : D) (b : Bool) (x7 x8 x9 x10 x11 : Option (Bool × D)), r = envP d way ps (s1 - 100, s2 - 100) sp b x7 x8 x9 x10 x11 ∧ Fd (n + 5 + 6 * j) d ∧ ps.length ≤ j ∧ (1 ≤ j → 1 ≤ ps.length) ∧ Near ps ∧ ps.Nodup)
    (rangeD 0 (1 + m)) 0 (envP d5 way [] (s1 - 100, s2 - 100) sp true none none none none none) (fun j x r hj hI => by
      obtain ⟨ps, d, b, x7, x8, x9, x10, x11, rfl, h1, h2, h3, h4, h5⟩ := hI
      have hj' : j < 7 := by rw [rangeD_len] at hj; omega
      obtain ⟨q, d', y8, y9, y10, y11, e, h6, h7⟩ := turn_ok h1 (by omega) a1 b1 ps (by omega) hst hsp b (some (false, x)) x8 x9 x10 x11
      refine ⟨_, ?_, (if q ∈ ps then ps else ps ++ [q]), d', false, some (false, x), y8, y9, y10, y11, rfl, by rw [show n + 5 + 6 * (j + 1) = n + 5 + 6 * j + 6 by omega]; exact h7, ?_, ?_, ?_, ?_⟩
      · rw [bindT_one]
        exact e
      · split
        · omega
        · simp; omega
      · intro _
        split
        · rename_i hm
          exact List.length_pos_of_mem hm
        · simp
      · intro p hp
        split at hp
        · exact h4 p hp
        · rcases List.mem_append.mp hp with hp | hp
          · exact h4 p hp
          · simp at hp; subst hp; exact h6
      · split
        · exact h5
        · rename_i hm
          exact nodup_snoc h5 hm) ⟨[], d5, true, none, none, none, none, none, rfl, f5, Nat.le_refl _, fun h => absurd h (by omega), fun p hp => (by cases hp), List.nodup_nil⟩
  obtain ⟨r', er, ps, d', b, x7, x8, x9, x10, x11, rfl, h1, h2, h3, h4, h5⟩ := loop
  rw [Nat.zero_add, rangeD_len] at h1 h2 h3
  refine ⟨ps, d', ?_, ⟨h3 (by omega), by omega, h4, h5⟩, h1.mono (by omega)⟩
  have hfor : exS (.for_ (.one 7) (.rng (.cons (.bin .add (.k (.int 1)) (.call f__law_draw "_law_draw" (.cons (.var 0) (.cons (.var 1) .nil)) [])) .nil)) turnB) (envP d4 way [] (s1 - 100, s2 - 100) sp true none none none none none) = .ok (.next, envP d' way ps (s1 - 100, s2 - 100) sp b x7 x8 x9 x10 x11) := by
    have hs : smallI (1 + m) = true := smallI_of ⟨by omega, by omega⟩
    have ei : evI (.rng (.cons (.bin .add (.k (.int 1)) (.call f__law_draw "_law_draw" (.cons (.var 0) (.cons (.var 1) .nil)) [])) .nil)) (envP d4 way [] (s1 - 100, s2 - 100) sp true none none none none none) = .ok (rangeD 0 (1 + m), envP d5 way [] (s1 - 100, s2 - 100) sp true none none none none none) := by
      simp [mkFn, exSs, e_var, e_k, e_bin, e_un, e_land, e_lor, e_cmp, e_chain, e_ite, e_tst, e_tup, e_lst, e_sub, e_slc, e_call, e_bi, e_pop, e_isi, x_set, x_setT, x_par, x_put, x_aug, x_ifs, x_expr, x_app, x_raise, x_brk, x_cont, x_pass, x_retv, x_rete, evEs, evFs, evOs, evAs, evO, evT, evTs, evI, opnd, look, looks, slotD, share, ownD, isOwnL, bindT_one, Pv.setE, isMut, argFlags, slotsApart, argsIn, argIn, argsOut, permL, ioOp, outsOf, truthR, bop_addI, bop_subI, bop_pow10, cop, ordD, uop, bi, Pv.plain, Pv.fresh, subD_p0, subD_p1, bindT_eP, isMut_eP, R.ok_bind, itemsOf, io_draw, e5, hs]
    rw [exS, ei]
    exact er
  simp only [stepsL, List.map_cons, List.map_nil] at e4
  unfold turnB at hfor
  simp only [envP, aroundL, List.map_cons, List.map_nil] at hfor
  simp [f__law_points, k__law_points, mkFn, exSs, e_var, e_k, e_bin, e_un, e_land, e_lor, e_cmp, e_chain, e_ite, e_tst, e_tup, e_lst, e_sub, e_slc, e_call, e_bi, e_pop, e_isi, x_set, x_setT, x_par, x_put, x_aug, x_ifs, x_expr, x_app, x_raise, x_brk, x_cont, x_pass, x_retv, x_rete, evEs, evFs, evOs, evAs, evO, evT, evTs, evI, opnd, look, looks, slotD, share, ownD, isOwnL, bindT_one, Pv.setE, isMut, argFlags, slotsApart, argsIn, argIn, argsOut, permL, ioOp, outsOf, truthR, bop_addI, bop_subI, bop_pow10, cop, ordD, uop, bi, Pv.plain, Pv.fresh, subD_p0, subD_p1, bindT_eP, isMut_eP, R.ok_bind, itemsOf, io_draw, io_one, e1, e2, e3, e4, eP_mk, hfor]
theorem io_points : f__law_points.io = [true, false] := rfl
end Lw

end
section
namespace Lw
open PySem hiding Env
open Pv
def mv (way by_ : Int) (p : Pt) : Pt := if way = 0 then (0 - p.2, p.1) else if way = 1 then (0 - p.1, p.2) else if way = 2 then (p.2, p.1) else (p.1 + by_ * p.2, p.2)
theorem sub4 (a b c e : Pt) (way : Int) (h1 : 0 ≤ way) (h2 : way < 4) : subD (.list [eP a, eP b, eP c, eP e]) (.int way) = .ok (eP (if way = 0 then a else if way = 1 then b else if way = 2 then c else e)) := by
  have : way = 0 ∨ way = 1 ∨ way = 2 ∨ way = 3 := by omega
  rcases this with rfl | rfl | rfl | rfl <;> rfl
theorem mv_inj {way by_ : Int} {p q : Pt} (h : mv way by_ p = mv way by_ q) : p = q := by
  unfold mv at h
  obtain ⟨a, b⟩ := p
  obtain ⟨c, d⟩ := q
  split at h
  · simp at h; simp; omega
  · split at h
    · simp at h; simp; omega
    · split at h
      · simp at h; simp; omega
      · simp at h
        obtain ⟨h1, h2⟩ := h
        subst h2
        simp; omega
theorem max_abs {ns : List Int} {n m : Int} (h : (n :: ns).foldl max n = m ∨ ns.foldl max n = m) : True := trivial
theorem den_moved {n : Nat} {d : D} (hd : Fd n d) (hn : n < 5000) (ps : List Pt) (g : Good ps) : ∃ (qs : List Pt) (d' : D), f__law_moved.den [d, .tuple (ps.map eP)] = .ok false (.tuple (qs.map eP)) [d'] ∧ Good qs ∧ Fd (n + 2) d' ∧ (qs = ps ∨ ∃ way by_, qs = ps.map (mv way by_)) := by
  obtain ⟨way, d1, e1, a1, b1, f1⟩ := den_draw hd (by omega) (m := 4) (by omega) (by omega)
  obtain ⟨b0, d2, e2, a2, b2, f2⟩ := den_draw f1 (by omega) (m := 3) (by omega) (by omega)
  have few := g.few
  have h1 : evE (.lc (.sub (.lst (.cons (.tup (.cons (.bin .sub (.k (.int 0)) (.var 6)) (.cons (.var 5) .nil))) (.cons (.tup (.cons (.bin .sub (.k (.int 0)) (.var 5)) (.cons (.var 6) .nil))) (.cons (.tup (.cons (.var 6) (.cons (.var 5) .nil))) (.cons (.tup (.cons (.bin .add (.var 5) (.bin .mul (.var 3) (.var 6))) (.cons (.var 6) .nil))) .nil))))) (.var 2)) (.seq (.var 1)) (.tup [5, 6]) .nil [5, 6])
      [some (true, d2), some (false, .tuple (ps.map eP)), some (false, .int way), some (false, .int (b0 - 1)), none, none, none] = .ok (true, .list (ps.flatMap fun p => [eP (mv way (b0 - 1) p)]), [some (true, d2), some (false, .tuple (ps.map eP)), some (false, .int way), some (false, .int (b0 - 1)), none, none, none]) := by
    refine ev_lc (enc := eP) (by simp [mkFn, exSs, e_var, e_k, e_bin, e_un, e_land, e_lor, e_cmp, e_chain, e_ite, e_tst, e_tup, e_lst, e_sub, e_slc, e_call, e_bi, e_pop, e_isi, x_set, x_setT, x_par, x_put, x_aug, x_ifs, x_expr, x_app, x_raise, x_brk, x_cont, x_pass, x_retv, x_rete, evEs, evFs, evOs, evAs, evO, evT, evTs, evI, opnd, look, looks, slotD, share, ownD, isOwnL, bindT_one, Pv.setE, isMut, argFlags, slotsApart, argsIn, argIn, argsOut, permL, ioOp, outsOf, truthR, bop_addI, bop_subI, bop_pow10, cop, ordD, uop, bi, Pv.plain, Pv.fresh, subD_p0, subD_p1, bindT_eP, isMut_eP, R.ok_bind, itemsOf]) (by simp [ownOk]) (fun x hx acc ha => ?_) (fun _ => Nat.le_refl 1) (by simp [SZ]; omega)
    have m1 : bop .mul (.int (b0 - 1)) (.int x.2) = .ok (false, .int ((b0 - 1) * x.2)) := bop_mulS ⟨by omega, by omega⟩
    simp [lcStep, mkFn, exSs, e_var, e_k, e_bin, e_un, e_land, e_lor, e_cmp, e_chain, e_ite, e_tst, e_tup, e_lst, e_sub, e_slc, e_call, e_bi, e_pop, e_isi, x_set, x_setT, x_par, x_put, x_aug, x_ifs, x_expr, x_app, x_raise, x_brk, x_cont, x_pass, x_retv, x_rete, evEs, evFs, evOs, evAs, evO, evT, evTs, evI, opnd, look, looks, slotD, share, ownD, isOwnL, bindT_one, Pv.setE, isMut, argFlags, slotsApart, argsIn, argIn, argsOut, permL, ioOp, outsOf, truthR, bop_addI, bop_subI, bop_pow10, cop, ordD, uop, bi, Pv.plain, Pv.fresh, subD_p0, subD_p1, bindT_eP, isMut_eP, R.ok_bind, itemsOf, ha, wipeE, wipeF, eP_mk, m1, sub4 _ _ _ _ way a1 b1, mv]
  rw [flatMap_map, show ps.map (fun p => eP (mv way (b0 - 1) p)) = (ps.map (mv way (b0 - 1))).map eP by rw [List.map_map]; rfl] at h1
  generalize hq : ps.map (mv way (b0 - 1)) = qs at *
  have ql : qs.length = ps.length := by rw [← hq, List.length_map]
  have h2 : evE (.lc (.bi .abs (.cons (.var 5) .nil)) (.seq (.var 4)) (.tup [5, 6]) .nil [5, 6]) [some (true, d2), some (false, .tuple (ps.map eP)), some (false, .int way), some (false, .int (b0 - 1)), some (true, .list (qs.map eP)), none, none] =
      .ok (true, .list (qs.flatMap fun p => [.int (if p.1 < 0 then -p.1 else p.1)]), [some (true, d2), some (false, .tuple (ps.map eP)), some (false, .int way), some (false, .int (b0 - 1)), some (false, .list (qs.map eP)), none, none]) := by
    refine ev_lc (enc := eP) (by simp [mkFn, exSs, e_var, e_k, e_bin, e_un, e_land, e_lor, e_cmp, e_chain, e_ite, e_tst, e_tup, e_lst, e_sub, e_slc, e_call, e_bi, e_pop, e_isi, x_set, x_setT, x_par, x_put, x_aug, x_ifs, x_expr, x_app, x_raise, x_brk, x_cont, x_pass, x_retv, x_rete, evEs, evFs, evOs, evAs, evO, evT, evTs, evI, opnd, look, looks, slotD, share, ownD, isOwnL, bindT_one, Pv.setE, isMut, argFlags, slotsApart, argsIn, argIn, argsOut, permL, ioOp, outsOf, truthR, bop_addI, bop_subI, bop_pow10, cop, ordD, uop, bi, Pv.plain, Pv.fresh, subD_p0, subD_p1, bindT_eP, isMut_eP, R.ok_bind, itemsOf]) (by simp [ownOk]) (fun x hx acc ha => ?_) (fun _ => Nat.le_refl 1) (by simp [SZ]; omega)
    simp [lcStep, mkFn, exSs, e_var, e_k, e_bin, e_un, e_land, e_lor, e_cmp, e_chain, e_ite, e_tst, e_tup, e_lst, e_sub, e_slc, e_call, e_bi, e_pop, e_isi, x_set, x_setT, x_par, x_put, x_aug, x_ifs, x_expr, x_app, x_raise, x_brk, x_cont, x_pass, x_retv, x_rete, evEs, evFs, evOs, evAs, evO, evT, evTs, evI, opnd, look, looks, slotD, share, ownD, isOwnL, bindT_one, Pv.setE, isMut, argFlags, slotsApart, argsIn, argIn, argsOut, permL, ioOp, outsOf, truthR, bop_addI, bop_subI, bop_pow10, cop, ordD, uop, bi, Pv.plain, Pv.fresh, subD_p0, subD_p1, bindT_eP, isMut_eP, R.ok_bind, itemsOf, ha, wipeE, wipeF]
  rw [flatMap_map] at h2
  obtain ⟨q0, qr, hqr⟩ : ∃ q0 qr, qs = q0 :: qr := by
    cases qs with
    | nil => have := g.one; simp at ql; omega
    | cons a b => exact ⟨a, b, rfl⟩
  have hints : intsOf? (qs.map fun p : Pt => PyData.int (if p.1 < 0 then -p.1 else p.1)) = some ((if q0.1 < 0 then -q0.1 else q0.1) :: qr.map fun p : Pt => if p.1 < 0 then -p.1 else p.1) := by
    rw [intsOf_map, hqr]
    rfl
  generalize hM : (qr.map fun p : Pt => if p.1 < 0 then -p.1 else p.1).foldl max (if q0.1 < 0 then -q0.1 else q0.1) = Mx
  have lem : ∀ p ∈ qs, (if p.1 < 0 then -p.1 else p.1) ≤ Mx := fun p hp => by
    rw [← hM]
    refine foldl_max_le _ _ _ ?_
    rw [hqr] at hp
    rcases List.mem_cons.mp hp with rfl | hp
    · exact List.mem_cons_self
    · exact List.mem_cons_of_mem _ (List.mem_map.mpr ⟨p, hp, rfl⟩)
  by_cases hlt : Mx < 1001
  · refine ⟨qs, d2, ?_, ⟨by have := g.one; omega, by omega, fun p hp => ?_, ?_⟩, f2, .inr ⟨way, b0 - 1, hq.symm⟩⟩
    · simp [f__law_moved, k__law_moved, mkFn, exSs, e_var, e_k, e_bin, e_un, e_land, e_lor, e_cmp, e_chain, e_ite, e_tst, e_tup, e_lst, e_sub, e_slc, e_call, e_bi, e_pop, e_isi, x_set, x_setT, x_par, x_put, x_aug, x_ifs, x_expr, x_app, x_raise, x_brk, x_cont, x_pass, x_retv, x_rete, evEs, evFs, evOs, evAs, evO, evT, evTs, evI, opnd, look, looks, slotD, share, ownD, isOwnL, bindT_one, Pv.setE, isMut, argFlags, slotsApart, argsIn, argIn, argsOut, permL, ioOp, outsOf, truthR, bop_addI, bop_subI, bop_pow10, cop, ordD, uop, bi, Pv.plain, Pv.fresh, subD_p0, subD_p1, bindT_eP, isMut_eP, R.ok_bind, itemsOf, io_draw, e1, e2, h1, h2, hints, hM, hlt]
    · have hx := lem p hp
      rw [← hq] at hp
      obtain ⟨p0, hp0, rfl⟩ := List.mem_map.mp hp
      have hn0 := g.near p0 hp0
      refine ⟨?_, ?_⟩
      · split at hx <;> omega
      · unfold mv
        split
        · simp only; omega
        · split
          · simp only; omega
          · split
            · simp only; omega
            · simp only; omega
    · rw [← hq]
      exact List.Pairwise.map _ (fun a b hab e => hab (mv_inj e)) g.nd
  · refine ⟨ps, d2, ?_, g, f2, .inl rfl⟩
    simp [f__law_moved, k__law_moved, mkFn, exSs, e_var, e_k, e_bin, e_un, e_land, e_lor, e_cmp, e_chain, e_ite, e_tst, e_tup, e_lst, e_sub, e_slc, e_call, e_bi, e_pop, e_isi, x_set, x_setT, x_par, x_put, x_aug, x_ifs, x_expr, x_app, x_raise, x_brk, x_cont, x_pass, x_retv, x_rete, evEs, evFs, evOs, evAs, evO, evT, evTs, evI, opnd, look, looks, slotD, share, ownD, isOwnL, bindT_one, Pv.setE, isMut, argFlags, slotsApart, argsIn, argIn, argsOut, permL, ioOp, outsOf, truthR, bop_addI, bop_subI, bop_pow10, cop, ordD, uop, bi, Pv.plain, Pv.fresh, subD_p0, subD_p1, bindT_eP, isMut_eP, R.ok_bind, itemsOf, io_draw, e1, e2, h1, h2, hints, hM, hlt]
theorem io_moved : f__law_moved.io = [true, false] := rfl
end Lw

end
section
namespace Lw
open PySem hiding Env
open Pv
/-! plain geometry: a point is inside when the ways to three others (some perhaps the same) add up to nothing -/
def Inn (W : List Pt) : Prop := ∃ u ∈ W, ∃ v ∈ W, ∃ w ∈ W, ∃ x y z : Int, 0 ≤ x ∧ 0 ≤ y ∧ 0 ≤ z ∧ 0 < x + y + z ∧ x * u.1 + y * v.1 + z * w.1 = 0 ∧ x * u.2 + y * v.2 + z * w.2 = 0
theorem sum0 {x y z a b c : Int} (hx : 0 ≤ x) (hy : 0 ≤ y) (hz : 0 ≤ z) (ha : 0 ≤ a) (hb : 0 ≤ b) (hc : 0 ≤ c) (h : x * a + y * b + z * c = 0) : (x = 0 ∨ a = 0) ∧ (y = 0 ∨ b = 0) ∧ (z = 0 ∨ c = 0) := by
  have h1 := Int.mul_nonneg hx ha
  have h2 := Int.mul_nonneg hy hb
  have h3 := Int.mul_nonneg hz hc
  refine ⟨Int.mul_eq_zero.mp (by omega), Int.mul_eq_zero.mp (by omega), Int.mul_eq_zero.mp (by omega)⟩
theorem half {W : List Pt} (a b c d : Int) (h : ∀ w ∈ W, 0 < a * w.1 + b * w.2 ∨ (a * w.1 + b * w.2 = 0 ∧ 0 < c * w.1 + d * w.2)) : ¬ Inn W := by
  rintro ⟨u, hu, v, hv, w, hw, x, y, z, hx, hy, hz, hs, e1, e2⟩
  have f : x * (a * u.1 + b * u.2) + y * (a * v.1 + b * v.2) + z * (a * w.1 + b * w.2) = 0 := by grind
  have g : x * (c * u.1 + d * u.2) + y * (c * v.1 + d * v.2) + z * (c * w.1 + d * w.2) = 0 := by grind
  have hu := h u hu
  have hv := h v hv
  have hw := h w hw
  generalize a * u.1 + b * u.2 = fu at *
  generalize a * v.1 + b * v.2 = fv at *
  generalize a * w.1 + b * w.2 = fw at *
  generalize c * u.1 + d * u.2 = gu at *
  generalize c * v.1 + d * v.2 = gv at *
  generalize c * w.1 + d * w.2 = gw at *
  obtain ⟨k1, k2, k3⟩ := sum0 hx hy hz (by omega) (by omega) (by omega) f
  have m1 : 0 ≤ x * gu := by
    rcases k1 with rfl | rfl
    · simp
    · exact Int.mul_nonneg hx (by omega)
  have m2 : 0 ≤ y * gv := by
    rcases k2 with rfl | rfl
    · simp
    · exact Int.mul_nonneg hy (by omega)
  have m3 : 0 ≤ z * gw := by
    rcases k3 with rfl | rfl
    · simp
    · exact Int.mul_nonneg hz (by omega)
  have n1 : x = 0 := by
    have : x * gu = 0 := by omega
    rcases Int.mul_eq_zero.mp this with q | q
    · exact q
    · rcases k1 with r | r
      · exact r
      · omega
  have n2 : y = 0 := by
    have : y * gv = 0 := by omega
    rcases Int.mul_eq_zero.mp this with q | q
    · exact q
    · rcases k2 with r | r
      · exact r
      · omega
  have n3 : z = 0 := by
    have : z * gw = 0 := by omega
    rcases Int.mul_eq_zero.mp this with q | q
    · exact q
    · rcases k3 with r | r
      · exact r
      · omega
  omega
theorem side_iff (u v : Pt) : side u v = true ↔ 0 < cr u v ∨ (cr u v = 0 ∧ 0 < dt u v) := by simp [side]
theorem not_inn_of_out {W : List Pt} (h : outB W = true) : ¬ Inn W := by
  unfold outB at h
  rw [Bool.or_eq_true] at h
  rcases h with h | h
  · rw [List.isEmpty_iff] at h
    subst h
    rintro ⟨u, hu, _⟩
    simp at hu
  · rw [List.any_eq_true] at h
    obtain ⟨o, ho, h⟩ := h
    rw [List.all_eq_true] at h
    refine half (-o.2) o.1 o.1 o.2 fun w hw => ?_
    have := (side_iff o w).mp (h w hw)
    have e1 : -o.2 * w.1 + o.1 * w.2 = cr o w := by unfold cr; grind
    have e2 : o.1 * w.1 + o.2 * w.2 = dt o w := rfl
    rw [e1, e2]
    exact this
def Bad (W : List Pt) : Prop := (∃ u ∈ W, ∃ v ∈ W, bad2 u v = true) ∨ ∃ u ∈ W, ∃ v ∈ W, ∃ w ∈ W, bad3 u v w = true
theorem sq_pos {v : Pt} (h : v ≠ (0, 0)) : 0 < dt v v := by
  have a : 0 ≤ v.1 * v.1 := by
    rcases Int.le_total 0 v.1 with h | h
    · exact Int.mul_nonneg h h
    · exact Int.mul_nonneg_of_nonpos_of_nonpos h h
  have b : 0 ≤ v.2 * v.2 := by
    rcases Int.le_total 0 v.2 with h | h
    · exact Int.mul_nonneg h h
    · exact Int.mul_nonneg_of_nonpos_of_nonpos h h
  unfold dt
  by_cases c : v.1 * v.1 + v.2 * v.2 = 0
  · have c1 : v.1 = 0 := by simpa using Int.mul_eq_zero.mp (show v.1 * v.1 = 0 by omega)
    have c2 : v.2 = 0 := by simpa using Int.mul_eq_zero.mp (show v.2 * v.2 = 0 by omega)
    exact absurd (Prod.ext c1 c2) h
  · omega
theorem bad3_iff (u v w : Pt) : bad3 u v w = true ↔ ((0 ≤ cr u v ∧ 0 ≤ cr v w ∧ 0 ≤ cr w u) ∨ (cr u v ≤ 0 ∧ cr v w ≤ 0 ∧ cr w u ≤ 0)) ∧ ¬ (cr u v = 0 ∧ cr v w = 0 ∧ cr w u = 0) := by
  unfold bad3
  generalize cr u v = a
  generalize cr v w = b
  generalize cr w u = c
  simp only [Bool.and_eq_true, Bool.or_eq_true, decide_eq_true_eq, Bool.not_eq_true', decide_eq_false_iff_not]
  omega
theorem bad2_iff (u v : Pt) : bad2 u v = true ↔ cr u v = 0 ∧ dt u v < 0 := by simp [bad2]
theorem inn_of_bad {W : List Pt} (h0 : ∀ w ∈ W, w ≠ (0, 0)) (h : Bad W) : Inn W := by
  rcases h with ⟨u, hu, v, hv, h⟩ | ⟨u, hu, v, hv, w, hw, h⟩
  · obtain ⟨h1, h2⟩ := (bad2_iff u v).mp h
    have p := sq_pos (h0 v hv)
    refine ⟨u, hu, v, hv, v, hv, dt v v, - dt u v, 0, by omega, by omega, by omega, by omega, ?_, ?_⟩ <;> unfold cr at h1 <;> unfold dt <;> grind
  · obtain ⟨h1, h2⟩ := (bad3_iff u v w).mp h
    rcases h1 with h1 | h1
    · refine ⟨u, hu, v, hv, w, hw, cr v w, cr w u, cr u v, by omega, by omega, by omega, by omega, ?_, ?_⟩ <;> unfold cr <;> grind
    · refine ⟨u, hu, v, hv, w, hw, - cr v w, - cr w u, - cr u v, by omega, by omega, by omega, by omega, ?_, ?_⟩ <;> unfold cr <;> grind
theorem cr_anti (u v : Pt) : cr u v = - cr v u := by unfold cr; grind
theorem dt_comm (u v : Pt) : dt u v = dt v u := by unfold dt; grind
theorem para0 {u v : Pt} (hu : u ≠ (0, 0)) (hv : v ≠ (0, 0)) (h : cr u v = 0) : dt u v ≠ 0 := by
  intro d
  have p := sq_pos hu
  have q := sq_pos hv
  have e : dt u u * dt v v = cr u v * cr u v + dt u v * dt u v := by unfold cr dt; grind
  rw [h, d] at e
  have := Int.mul_pos p q
  omega
theorem out_of_not_bad : ∀ {W : List Pt}, (∀ w ∈ W, w ≠ (0, 0)) → ¬ Bad W → outB W = true
  | [], _, _ => rfl
  | x :: W, h0, hb => by
    have ih := out_of_not_bad (W := W) (fun w hw => h0 w (List.mem_cons_of_mem _ hw)) fun q => hb (by
      rcases q with ⟨u, hu, v, hv, h⟩ | ⟨u, hu, v, hv, w, hw, h⟩
      · exact .inl ⟨u, List.mem_cons_of_mem _ hu, v, List.mem_cons_of_mem _ hv, h⟩
      · exact .inr ⟨u, List.mem_cons_of_mem _ hu, v, List.mem_cons_of_mem _ hv, w, List.mem_cons_of_mem _ hw, h⟩)
    have hx := h0 x List.mem_cons_self
    have nb2 : ∀ u ∈ x :: W, ∀ v ∈ x :: W, ¬ (cr u v = 0 ∧ dt u v < 0) := fun u hu v hv q => hb (.inl ⟨u, hu, v, hv, (bad2_iff u v).mpr q⟩)
    have nb3 : ∀ u ∈ x :: W, ∀ v ∈ x :: W, ∀ w ∈ x :: W, ¬ (((0 ≤ cr u v ∧ 0 ≤ cr v w ∧ 0 ≤ cr w u) ∨ (cr u v ≤ 0 ∧ cr v w ≤ 0 ∧ cr w u ≤ 0)) ∧ ¬ (cr u v = 0 ∧ cr v w = 0 ∧ cr w u = 0)) := fun u hu v hv w hw q => hb (.inr ⟨u, hu, v, hv, w, hw, (bad3_iff u v w).mpr q⟩)
    have sxx : side x x = true := (side_iff x x).mpr (.inr ⟨by unfold cr; grind, sq_pos hx⟩)
    unfold outB at ih ⊢
    rw [Bool.or_eq_true] at ih ⊢
    rw [List.any_eq_true]
    right
    rcases ih with ih | ih
    · rw [List.isEmpty_iff] at ih
      subst ih
      exact ⟨x, List.mem_cons_self, by simp [sxx]⟩
    · rw [List.any_eq_true] at ih
      obtain ⟨o, ho, ha⟩ := ih
      rw [List.all_eq_true] at ha
      have ho' := List.mem_cons_of_mem x ho
      by_cases c : side o x = true
      · refine ⟨o, ho', ?_⟩
        rw [List.all_eq_true]
        intro w hw
        rcases List.mem_cons.mp hw with rfl | hw
        · exact c
        · exact ha w hw
      · have c0 : cr o x < 0 := by
          have c' := fun q => c ((side_iff o x).mpr q)
          have n2 := nb2 o ho' x List.mem_cons_self
          by_cases z : cr o x = 0
          · have := para0 (h0 o ho') hx z
            exact absurd (by omega) c'
          · have : ¬ 0 < cr o x := fun q => c' (.inl q)
            omega
        refine ⟨x, List.mem_cons_self, ?_⟩
        rw [List.all_eq_true]
        intro w hw
        rcases List.mem_cons.mp hw with rfl | hw
        · exact sxx
        · have hw' := List.mem_cons_of_mem x hw
          have s := (side_iff o w).mp (ha w hw)
          have n3 := nb3 x List.mem_cons_self o ho' w hw'
          have a1 := cr_anti o x
          have a2 := cr_anti x w
          rw [side_iff]
          by_cases z : cr x w = 0
          · have := para0 hx (h0 w hw') z
            have := nb2 x List.mem_cons_self w hw'
            right
            omega
          · left
            omega
theorem out_iff {W : List Pt} (h0 : ∀ w ∈ W, w ≠ (0, 0)) : outB W = true ↔ ¬ Inn W :=
  ⟨not_inn_of_out, fun h => out_of_not_bad h0 fun b => h (inn_of_bad h0 b)⟩
theorem not_bad_iff {W : List Pt} (h0 : ∀ w ∈ W, w ≠ (0, 0)) : ¬ Bad W ↔ outB W = true :=
  ⟨out_of_not_bad h0, fun h b => not_inn_of_out h (inn_of_bad h0 b)⟩
end Lw

end
section
namespace Lw
open PySem hiding Env
open Pv
theorem bad2_comm (u v : Pt) : bad2 u v = bad2 v u := by
  rw [Bool.eq_iff_iff, bad2_iff, bad2_iff, cr_anti u v, dt_comm u v]
  omega
theorem bad3_rot (u v w : Pt) : bad3 u v w = bad3 v w u := by
  rw [Bool.eq_iff_iff, bad3_iff, bad3_iff]
  omega
theorem bad3_swap (u v w : Pt) : bad3 u v w = bad3 v u w := by
  rw [Bool.eq_iff_iff, bad3_iff, bad3_iff, cr_anti u v, cr_anti u w, cr_anti w v]
  omega
theorem bad3_swap2 (u v w : Pt) : bad3 u w v = bad3 u v w := by
  rw [Bool.eq_iff_iff, bad3_iff, bad3_iff, cr_anti u w, cr_anti w v, cr_anti v u]
  omega
theorem bad3_rev (u v w : Pt) : bad3 w v u = bad3 u v w := by
  rw [Bool.eq_iff_iff, bad3_iff, bad3_iff, cr_anti w v, cr_anti v u, cr_anti u w]
  omega
theorem cr_self (u : Pt) : cr u u = 0 := by unfold cr; grind
theorem bad2_self (u : Pt) : bad2 u u = false := by
  rw [← Bool.not_eq_true, bad2_iff]
  rintro ⟨_, h⟩
  by_cases z : u = (0, 0)
  · subst z; simp [dt] at h
  · have := sq_pos z; omega
theorem bad3_self (u w : Pt) : bad3 u u w = false := by
  rw [← Bool.not_eq_true, bad3_iff, cr_self, cr_anti w u]
  omega
theorem badP_iff (p : Pt) (qs : List Pt) : badP p qs = true ↔ ∃ i, ∃ hi : i < qs.length, ∃ s, ∃ hs : s < i, bad2 (sub2 qs[i] p) (sub2 (qs[s]'(by omega)) p) = true ∨ ∃ t, ∃ ht : t < s, bad3 (sub2 qs[i] p) (sub2 (qs[s]'(by omega)) p) (sub2 (qs[t]'(by omega)) p) = true := by
  unfold badP
  rw [List.any_eq_true]
  constructor
  · rintro ⟨⟨q, i⟩, hx, h⟩
    have hx' := List.mem_zipIdx_iff_getElem?.mp hx
    obtain ⟨hi, hq⟩ := List.getElem?_eq_some_iff.mp hx'
    simp only at hi hq
    unfold badAt at h
    rw [List.any_eq_true] at h
    obtain ⟨s, hs, h⟩ := h
    have hs' : s < i := List.mem_range.mp hs
    refine ⟨i, hi, s, hs', ?_⟩
    rw [List.getD_eq_getElem?_getD, List.getElem?_eq_getElem (show s < qs.length by omega)] at h
    simp only [Option.getD_some] at h
    rw [Bool.or_eq_true] at h
    rw [hq]
    rcases h with h | h
    · exact .inl h
    · rw [List.any_eq_true] at h
      obtain ⟨w, hw, h⟩ := h
      obtain ⟨t, ht, rfl⟩ := List.mem_iff_getElem.mp hw
      rw [List.length_take] at ht
      rw [List.getElem_take] at h
      exact .inr ⟨t, by omega, h⟩
  · rintro ⟨i, hi, s, hs, h⟩
    refine ⟨(qs[i], i), List.mem_zipIdx_iff_getElem?.mpr (by simp [hi]), ?_⟩
    unfold badAt
    rw [List.any_eq_true]
    refine ⟨s, List.mem_range.mpr hs, ?_⟩
    rw [List.getD_eq_getElem?_getD, List.getElem?_eq_getElem (show s < qs.length by omega)]
    simp only [Option.getD_some]
    rw [Bool.or_eq_true]
    rcases h with h | ⟨t, ht, h⟩
    · exact .inl h
    · right
      rw [List.any_eq_true]
      refine ⟨qs[t]'(by omega), ?_, h⟩
      rw [List.mem_iff_getElem]
      exact ⟨t, by rw [List.length_take]; omega, by rw [List.getElem_take]⟩
theorem badP_bad (p : Pt) (qs : List Pt) : badP p qs = true ↔ Bad (qs.map fun q => sub2 q p) := by
  rw [badP_iff]
  constructor
  · rintro ⟨i, hi, s, hs, h | ⟨t, ht, h⟩⟩
    · exact .inl ⟨_, List.mem_map.mpr ⟨_, List.getElem_mem hi, rfl⟩, _, List.mem_map.mpr ⟨_, List.getElem_mem _, rfl⟩, h⟩
    · exact .inr ⟨_, List.mem_map.mpr ⟨_, List.getElem_mem hi, rfl⟩, _, List.mem_map.mpr ⟨_, List.getElem_mem _, rfl⟩, _, List.mem_map.mpr ⟨_, List.getElem_mem _, rfl⟩, h⟩
  · rintro (⟨u, hu, v, hv, h⟩ | ⟨u, hu, v, hv, w, hw, h⟩)
    · obtain ⟨a, ha, rfl⟩ := List.mem_map.mp hu
      obtain ⟨b, hb, rfl⟩ := List.mem_map.mp hv
      obtain ⟨i, hi, rfl⟩ := List.mem_iff_getElem.mp ha
      obtain ⟨j, hj, rfl⟩ := List.mem_iff_getElem.mp hb
      rcases Nat.lt_trichotomy i j with c | c | c
      · exact ⟨j, hj, i, c, .inl (by rw [bad2_comm]; exact h)⟩
      · subst c
        rw [bad2_self] at h
        cases h
      · exact ⟨i, hi, j, c, .inl h⟩
    · obtain ⟨a, ha, rfl⟩ := List.mem_map.mp hu
      obtain ⟨b, hb, rfl⟩ := List.mem_map.mp hv
      obtain ⟨c, hc, rfl⟩ := List.mem_map.mp hw
      obtain ⟨i, hi, rfl⟩ := List.mem_iff_getElem.mp ha
      obtain ⟨j, hj, rfl⟩ := List.mem_iff_getElem.mp hb
      obtain ⟨k, hk, rfl⟩ := List.mem_iff_getElem.mp hc
      by_cases e1 : i = j
      · subst e1; rw [bad3_self] at h; cases h
      by_cases e2 : j = k
      · subst e2; rw [bad3_rot, bad3_self] at h; cases h
      by_cases e3 : i = k
      · subst e3; rw [bad3_rot, bad3_rot, bad3_self] at h; cases h
      rcases Nat.lt_or_ge i j with c1 | c1 <;> rcases Nat.lt_or_ge j k with c2 | c2 <;> rcases Nat.lt_or_ge i k with c3 | c3
      · exact ⟨k, hk, j, c2, .inr ⟨i, c1, by rw [bad3_rev]; exact h⟩⟩
      · omega
      · exact ⟨j, hj, k, by omega, .inr ⟨i, c3, by rw [← bad3_rot]; exact h⟩⟩
      · exact ⟨j, hj, i, c1, .inr ⟨k, by omega, by rw [bad3_swap]; exact h⟩⟩
      · exact ⟨k, hk, i, c3, .inr ⟨j, by omega, by rw [← bad3_rot, ← bad3_rot]; exact h⟩⟩
      · exact ⟨i, hi, k, by omega, .inr ⟨j, c2, by rw [bad3_swap2]; exact h⟩⟩
      · omega
      · exact ⟨i, hi, j, by omega, .inr ⟨k, by omega, h⟩⟩
/-! the two ways of the law are one -/
theorem sub2_ne {p q : Pt} (h : q ≠ p) : sub2 q p ≠ (0, 0) := by
  intro e
  have e1 : q.1 - p.1 = 0 := congrArg Prod.fst e
  have e2 : q.2 - p.2 = 0 := congrArg Prod.snd e
  exact h (Prod.ext (by omega) (by omega))
theorem at_inj {ps : List Pt} (g : ps.Nodup) {i j : Int} (hi : 0 ≤ i ∧ i < ps.length) (hj : 0 ≤ j ∧ j < ps.length) (h : at_ ps i = at_ ps j) : i = j := by
  unfold at_ at h
  rw [List.getD_eq_getElem?_getD, List.getD_eq_getElem?_getD, List.getElem?_eq_getElem (by omega), List.getElem?_eq_getElem (by omega)] at h
  simp only [Option.getD_some] at h
  have := (List.getElem_inj g).mp h
  omega
def InR (ps : List Pt) (l : List Int) : Prop := ∀ j ∈ l, 0 ≤ j ∧ j < ps.length
theorem ways_ne {ps : List Pt} (g : ps.Nodup) {l : List Int} (hl : InR ps l) {i : Int} (hi : 0 ≤ i ∧ i < ps.length) : ∀ w ∈ ways ps i l, w ≠ (0, 0) := by
  intro w hw
  obtain ⟨j, hj, hne, rfl⟩ := ways_mem hw
  exact sub2_ne fun e => hne (at_inj g (hl j hj) hi e)
theorem pts_ways (ps : List Pt) (i : Int) (l : List Int) : ((pts ps i l).map fun q => sub2 q (at_ ps i)) = ways ps i l := by
  unfold pts ways
  rw [List.map_map]
  rfl
theorem outB_law {ps : List Pt} (g : ps.Nodup) {l : List Int} (hl : InR ps l) {i : Int} (hi : 0 ≤ i ∧ i < ps.length) : outB (ways ps i l) = !badP (at_ ps i) (pts ps i l) := by
  rw [Bool.eq_iff_iff, ← not_bad_iff (ways_ne g hl hi), Bool.not_eq_true', ← Bool.not_eq_true, badP_bad, pts_ways]
theorem outs_law {ps : List Pt} (g : ps.Nodup) {l : List Int} (hl : InR ps l) : lawOuts ps l = outs ps l := by
  unfold lawOuts outs
  exact List.filter_congr fun i hi => (outB_law g hl (hl i hi)).symm
/-! the ends -/
def lexLt (p q : Pt) : Prop := p.1 < q.1 ∨ (p.1 = q.1 ∧ p.2 < q.2)
theorem out_least {ps : List Pt} (g : ps.Nodup) {l : List Int} (hl : InR ps l) {i : Int} (hi : i ∈ l) (h : ∀ j ∈ l, j ≠ i → lexLt (at_ ps i) (at_ ps j)) : i ∈ outs ps l := by
  unfold outs
  rw [List.mem_filter, out_iff (ways_ne g hl (hl i hi))]
  refine ⟨hi, half 1 0 0 1 fun w hw => ?_⟩
  obtain ⟨j, hj, hne, rfl⟩ := ways_mem hw
  have := h j hj hne
  unfold lexLt at this
  unfold sub2
  simp only
  omega
theorem out_greatest {ps : List Pt} (g : ps.Nodup) {l : List Int} (hl : InR ps l) {i : Int} (hi : i ∈ l) (h : ∀ j ∈ l, j ≠ i → lexLt (at_ ps j) (at_ ps i)) : i ∈ outs ps l := by
  unfold outs
  rw [List.mem_filter, out_iff (ways_ne g hl (hl i hi))]
  refine ⟨hi, half (-1) 0 0 (-1) fun w hw => ?_⟩
  obtain ⟨j, hj, hne, rfl⟩ := ways_mem hw
  have := h j hj hne
  unfold lexLt at this
  unfold sub2
  simp only
  omega
/-! few points -/
theorem outs_few {ps : List Pt} (g : ps.Nodup) {l : List Int} (hl : InR ps l) (hn : l.Nodup) (h : l.length < 3) : outs ps l = l := by
  unfold outs
  rw [List.filter_eq_self]
  intro i hi
  have hlen : (l.filter fun j => decide (j ≠ i)).length < 2 := by
    have h1 : (l.filter fun j => decide (j ≠ i)).length < l.length := List.length_filter_lt_length_iff_exists.mpr ⟨i, hi, by simp⟩
    omega
  rw [out_iff (ways_ne g hl (hl i hi))]
  have hw : (ways ps i l).length < 2 := by unfold ways; rw [List.length_map]; exact hlen
  have h0 := ways_ne g hl (hl i hi)
  generalize ways ps i l = W at *
  match W, hw, h0 with
  | [], _, _ =>
    rintro ⟨u, hu, _⟩
    simp at hu
  | [w], _, h0 =>
    refine half w.1 w.2 0 0 fun v hv => ?_
    rw [List.mem_singleton] at hv
    subst hv
    exact .inl (sq_pos (h0 v (by simp)))
/-! moved points -/
theorem mv_lin (way by_ : Int) (p q : Pt) : sub2 (mv way by_ q) (mv way by_ p) = mv way by_ (sub2 q p) := by
  unfold mv sub2
  split
  · simp only [Prod.mk.injEq]; grind
  · split
    · simp only [Prod.mk.injEq]; grind
    · split
      · rfl
      · simp only [Prod.mk.injEq]; grind
theorem inn_mv (way by_ : Int) (W : List Pt) : Inn (W.map (mv way by_)) ↔ Inn W := by
  constructor
  · rintro ⟨u, hu, v, hv, w, hw, x, y, z, hx, hy, hz, hs, e1, e2⟩
    obtain ⟨u, ku, rfl⟩ := List.mem_map.mp hu
    obtain ⟨v, kv, rfl⟩ := List.mem_map.mp hv
    obtain ⟨w, kw, rfl⟩ := List.mem_map.mp hw
    refine ⟨u, ku, v, kv, w, kw, x, y, z, hx, hy, hz, hs, ?_⟩
    unfold mv at e1 e2
    split at e1
    · rename_i c; simp only [if_pos c] at e2; constructor <;> grind
    · rename_i c
      simp only [if_neg c] at e2
      split at e1
      · rename_i c; simp only [if_pos c] at e2; constructor <;> grind
      · rename_i c
        simp only [if_neg c] at e2
        split at e1
        · rename_i c; simp only [if_pos c] at e2; constructor <;> grind
        · rename_i c; simp only [if_neg c] at e2; constructor <;> grind
  · rintro ⟨u, hu, v, hv, w, hw, x, y, z, hx, hy, hz, hs, e1, e2⟩
    refine ⟨_, List.mem_map.mpr ⟨u, hu, rfl⟩, _, List.mem_map.mpr ⟨v, hv, rfl⟩, _, List.mem_map.mpr ⟨w, hw, rfl⟩, x, y, z, hx, hy, hz, hs, ?_⟩
    unfold mv
    split
    · constructor <;> grind
    · split
      · constructor <;> grind
      · split
        · constructor <;> grind
        · constructor <;> grind
theorem at_map {ps : List Pt} (f : Pt → Pt) {i : Int} (hi : 0 ≤ i ∧ i < ps.length) : at_ (ps.map f) i = f (at_ ps i) := by
  unfold at_
  rw [List.getD_eq_getElem?_getD, List.getD_eq_getElem?_getD, List.getElem?_map, List.getElem?_eq_getElem (by omega)]
  rfl
theorem outs_moved {ps qs : List Pt} (g : ps.Nodup) (g2 : qs.Nodup) {way by_ : Int} (h : qs = ps.map (mv way by_)) {l : List Int} (hl : InR ps l) : outs qs l = outs ps l := by
  unfold outs
  refine List.filter_congr fun i hi => ?_
  have hl2 : InR qs l := by subst h; intro j hj; rw [List.length_map]; exact hl j hj
  rw [Bool.eq_iff_iff, out_iff (ways_ne g2 hl2 (hl2 i hi)), out_iff (ways_ne g hl (hl i hi))]
  have : ways qs i l = (ways ps i l).map (mv way by_) := by
    subst h
    unfold ways
    rw [List.map_map]
    refine List.map_congr_left fun j hj => ?_
    rw [List.mem_filter] at hj
    rw [at_map _ (hl i hi), at_map _ (hl j hj.1)]
    exact mv_lin _ _ _ _
  rw [this, inn_mv]
/-! an inner point left away -/
theorem sum_nn {x y z a b c : Int} (h1 : 0 ≤ x * a) (h2 : 0 ≤ y * b) (h3 : 0 ≤ z * c) {s d : Int} (hs : 0 < s) (h : x * a + y * b + z * c = s * d) : 0 ≤ d := by
  apply Classical.byContradiction
  intro n
  have := Int.mul_neg_of_pos_of_neg hs (show d < 0 by omega)
  omega
theorem comb {x y z s a b c d a' b' c' d' : Int} (hx : 0 ≤ x) (hy : 0 ≤ y) (hz : 0 ≤ z) (hs : 0 < s) (ha : 0 < a ∨ (a = 0 ∧ 0 ≤ a')) (hb : 0 < b ∨ (b = 0 ∧ 0 ≤ b')) (hc : 0 < c ∨ (c = 0 ∧ 0 ≤ c'))
    (e : x * a + y * b + z * c = s * d) (e' : x * a' + y * b' + z * c' = s * d') : 0 < d ∨ (d = 0 ∧ 0 ≤ d') := by
  have hd := sum_nn (Int.mul_nonneg hx (show 0 ≤ a by omega)) (Int.mul_nonneg hy (show 0 ≤ b by omega)) (Int.mul_nonneg hz (show 0 ≤ c by omega)) hs e
  by_cases z0 : d = 0
  · subst z0
    obtain ⟨k1, k2, k3⟩ := sum0 hx hy hz (by omega) (by omega) (by omega) (e.trans (Int.mul_zero s))
    right
    refine ⟨rfl, sum_nn (x := x) (y := y) (z := z) ?_ ?_ ?_ hs e'⟩
    · rcases k1 with rfl | rfl
      · simp
      · exact Int.mul_nonneg hx (by omega)
    · rcases k2 with rfl | rfl
      · simp
      · exact Int.mul_nonneg hy (by omega)
    · rcases k3 with rfl | rfl
      · simp
      · exact Int.mul_nonneg hz (by omega)
  · left; omega
def add2 (u d : Pt) : Pt := (u.1 + d.1, u.2 + d.2)
theorem side_comb {o d u v w : Pt} (ho : o ≠ (0, 0)) (hd : d ≠ (0, 0)) (hu : add2 u d = (0, 0) ∨ side o (add2 u d) = true) (hv : add2 v d = (0, 0) ∨ side o (add2 v d) = true) (hw : add2 w d = (0, 0) ∨ side o (add2 w d) = true)
    {x y z : Int} (hx : 0 ≤ x) (hy : 0 ≤ y) (hz : 0 ≤ z) (hs : 0 < x + y + z) (e1 : x * u.1 + y * v.1 + z * w.1 = 0) (e2 : x * u.2 + y * v.2 + z * w.2 = 0) : side o d = true := by
  have f : x * cr o (add2 u d) + y * cr o (add2 v d) + z * cr o (add2 w d) = (x + y + z) * cr o d := by unfold cr add2; grind
  have f' : x * dt o (add2 u d) + y * dt o (add2 v d) + z * dt o (add2 w d) = (x + y + z) * dt o d := by unfold dt add2; grind
  have q : ∀ t : Pt, t = (0, 0) ∨ side o t = true → 0 < cr o t ∨ (cr o t = 0 ∧ 0 ≤ dt o t) := by
    rintro t (rfl | h)
    · right; simp [cr, dt]
    · rw [side_iff] at h; omega
  have r := comb hx hy hz hs (q _ hu) (q _ hv) (q _ hw) f f'
  rw [side_iff]
  have := para0 ho hd
  omega
theorem inn_one {W : List Pt} {w : Pt} (hw : w ≠ (0, 0)) (h : ∀ u ∈ W, u = w) : ¬ Inn W := by
  refine half w.1 w.2 0 0 fun v hv => ?_
  rw [h v hv]
  exact .inl (sq_pos hw)
theorem mem_ways {ps : List Pt} {i j : Int} {l : List Int} (h : j ∈ l) (hne : j ≠ i) : sub2 (at_ ps j) (at_ ps i) ∈ ways ps i l := by
  unfold ways
  exact List.mem_map.mpr ⟨j, List.mem_filter.mpr ⟨h, by simpa using hne⟩, rfl⟩
theorem mem_less {l : List Int} {i j : Int} (h : j ∈ l) (hne : j ≠ i) : j ∈ l.filter fun j => decide (j ≠ i) := List.mem_filter.mpr ⟨h, by simpa using hne⟩
theorem outs_less {ps : List Pt} (g : ps.Nodup) {l : List Int} (hl : InR ps l) {i : Int} (hi : i ∈ l) (h : i ∉ outs ps l) : outs ps (l.filter fun j => decide (j ≠ i)) = outs ps l := by
  have hin : Inn (ways ps i l) := by
    apply Classical.byContradiction
    intro c
    exact h (by unfold outs; rw [List.mem_filter, out_iff (ways_ne g hl (hl i hi))]; exact ⟨hi, c⟩)
  have hl2 : InR ps (l.filter fun j => decide (j ≠ i)) := fun j hj => hl j (List.mem_filter.mp hj).1
  have key : ∀ q ∈ l, q ≠ i → (outB (ways ps q (l.filter fun j => decide (j ≠ i))) = outB (ways ps q l)) := fun q hq hne => by
    have n1 := ways_ne g hl (hl q hq)
    have n2 := ways_ne g hl2 (hl q hq)
    rw [Bool.eq_iff_iff]
    constructor
    · intro o
      unfold outB at o
      rw [Bool.or_eq_true] at o
      rcases o with o | o
      · rw [List.isEmpty_iff] at o
        have all : ∀ j ∈ l, j ≠ i → j = q := fun j hj hji => by
          apply Classical.byContradiction
          intro hjq
          have := mem_ways (ps := ps) (mem_less hj hji) hjq
          rw [o] at this
          simp at this
        refine absurd hin (inn_one (w := sub2 (at_ ps q) (at_ ps i)) (sub2_ne fun e => hne (at_inj g (hl q hq) (hl i hi) e)) fun u hu => ?_)
        obtain ⟨j, hj, hji, rfl⟩ := ways_mem hu
        rw [all j hj hji]
      · rw [List.any_eq_true] at o
        obtain ⟨o, ho, ha⟩ := o
        rw [List.all_eq_true] at ha
        have ho0 := n2 o ho
        have near : ∀ j ∈ l, j ≠ i → sub2 (at_ ps j) (at_ ps q) = (0, 0) ∨ side o (sub2 (at_ ps j) (at_ ps q)) = true := fun j hj hji => by
          by_cases e : j = q
          · left; subst e; simp [sub2]
          · exact .inr (ha _ (mem_ways (mem_less hj hji) e))
        have hd : side o (sub2 (at_ ps i) (at_ ps q)) = true := by
          obtain ⟨u, hu, v, hv, w, hw, x, y, z, hx, hy, hz, hs, e1, e2⟩ := hin
          have ad : ∀ j, add2 (sub2 (at_ ps j) (at_ ps i)) (sub2 (at_ ps i) (at_ ps q)) = sub2 (at_ ps j) (at_ ps q) := fun j => by
            unfold add2 sub2
            simp only [Prod.mk.injEq]
            omega
          have one : ∀ u ∈ ways ps i l, add2 u (sub2 (at_ ps i) (at_ ps q)) = (0, 0) ∨ side o (add2 u (sub2 (at_ ps i) (at_ ps q))) = true := fun u hu => by
            obtain ⟨j, hj, hji, rfl⟩ := ways_mem hu
            rw [ad j]
            exact near j hj hji
          exact side_comb ho0 (sub2_ne fun e => hne (at_inj g (hl i hi) (hl q hq) e).symm) (one u hu) (one v hv) (one w hw) hx hy hz hs e1 e2
        have all : outB (ways ps q l) = true := by
          unfold outB
          rw [Bool.or_eq_true, List.any_eq_true]
          right
          obtain ⟨j, hj, hjq, rfl⟩ := ways_mem ho
          refine ⟨_, mem_ways (List.mem_filter.mp hj).1 hjq, ?_⟩
          rw [List.all_eq_true]
          intro w hw
          obtain ⟨k, hk, hkq, rfl⟩ := ways_mem hw
          by_cases e : k = i
          · subst e; exact hd
          · exact ha _ (mem_ways (mem_less hk e) hkq)
        exact all
    · intro o
      rw [out_iff n1] at o
      rw [out_iff n2]
      rintro ⟨u, hu, v, hv, w, hw, r⟩
      have sub : ∀ w ∈ ways ps q (l.filter fun j => decide (j ≠ i)), w ∈ ways ps q l := fun w hw => by
        unfold ways at hw ⊢
        obtain ⟨j, hj, rfl⟩ := List.mem_map.mp hw
        rw [List.mem_filter, List.mem_filter] at hj
        exact List.mem_map.mpr ⟨j, List.mem_filter.mpr ⟨hj.1.1, hj.2⟩, rfl⟩
      exact o ⟨u, sub u hu, v, sub v hv, w, sub w hw, r⟩
  unfold outs at h ⊢
  rw [List.filter_filter]
  refine List.filter_congr fun q hq => ?_
  by_cases e : q = i
  · subst e
    have : outB (ways ps q l) = false := by
      rw [← Bool.not_eq_true]
      intro c
      exact h (List.mem_filter.mpr ⟨hq, c⟩)
    simp [this]
  · rw [key q hq e]
    simp [e]
end Lw

end
section
namespace Lw
open PySem hiding Env
open Pv
/-! ascending -/
theorem upI_iff : ∀ l : List Int, upI l = true ↔ l.Pairwise (· < ·)
  | [] => by simp [upI]
  | [a] => by simp [upI]
  | a :: b :: l => by
    have ih := upI_iff (b :: l)
    have e : upI (a :: b :: l) = (decide (a < b) && upI (b :: l)) := by simp [upI]
    rw [e, Bool.and_eq_true, ih, List.pairwise_cons (a := a)]
    constructor
    · rintro ⟨h1, h2⟩
      have h1 := of_decide_eq_true h1
      refine ⟨fun c hc => ?_, h2⟩
      rcases List.mem_cons.mp hc with rfl | hc
      · exact h1
      · exact Int.lt_trans h1 ((List.pairwise_cons.mp h2).1 c hc)
    · rintro ⟨h1, h2⟩
      exact ⟨decide_eq_true (h1 b List.mem_cons_self), h2⟩
theorem okLeft_iff (l : List Int) (n : Int) : okLeft l n = true ↔ (l.length : Int) ≤ n ∧ (∀ i ∈ l, 0 ≤ i ∧ i < n) ∧ l.Pairwise (· < ·) := by
  unfold okLeft
  rw [Bool.and_eq_true, Bool.and_eq_true, upI_iff, List.all_eq_true]
  simp only [decide_eq_true_eq, Bool.and_eq_true]
  constructor
  · rintro ⟨h1, h2, h3⟩
    exact ⟨h1, fun i hi => by have := h2 i hi; omega, h3⟩
  · rintro ⟨h1, h2, h3⟩
    exact ⟨h1, fun i hi => by have := h2 i hi; omega, h3⟩
theorem okLeft_sub {zs l : List Int} {n : Int} (s : zs.Sublist l) (h : okLeft l n = true) : okLeft zs n = true := by
  rw [okLeft_iff] at h ⊢
  have := s.length_le
  exact ⟨by omega, fun i hi => h.2.1 i (s.subset hi), h.2.2.sublist s⟩
theorem okLeft_nd {l : List Int} {n : Int} (h : okLeft l n = true) : l.Nodup := by
  rw [okLeft_iff] at h
  exact h.2.2.imp fun q => Int.ne_of_lt q
/-! repr -/
theorem any_ints (l : List Int) (i : Int) : (eI l).any (fun z => PyData.eqv z (.int i)) = decide (i ∈ l) := by
  unfold eI
  rw [List.any_map, Bool.eq_iff_iff]
  simp [Function.comp_def, eqv_int, List.any_eq_true]
theorem isin_ints (l : List Int) (i : Int) : isinD (.int i) (.list (eI l)) = .ok (decide (i ∈ l)) := by
  show (if SeqAt.shaped (.int i) && SeqAt.shaped (.list (eI l)) then R.ok _ else .bad) = _
  rw [shaped_int, (shaped_ints l).1, any_ints]
  rfl
/-! sorted -/
def eS (ps : List Pt) (i : Int) : D := .tuple [eP (at_ ps i), .int i]
instance (p q : Pt) : Decidable (lexLt p q) := inferInstanceAs (Decidable (_ ∨ _))
def leS (ps : List Pt) (i j : Int) : Bool := decide (lexLt (at_ ps i) (at_ ps j)) || (decide (at_ ps i = at_ ps j) && decide (i ≤ j))
theorem leS_iff (ps : List Pt) (i j : Int) : leS ps i j = true ↔ (at_ ps i).1 < (at_ ps j).1 ∨ ((at_ ps i).1 = (at_ ps j).1 ∧ ((at_ ps i).2 < (at_ ps j).2 ∨ ((at_ ps i).2 = (at_ ps j).2 ∧ i ≤ j))) := by
  unfold leS
  rw [Bool.or_eq_true, Bool.and_eq_true, decide_eq_true_eq, decide_eq_true_eq, decide_eq_true_eq, Prod.ext_iff]
  unfold lexLt
  omega
theorem le_eS (ps : List Pt) (i j : Int) : leS ps i j = PySem.W.dataLe false id (eS ps i) (eS ps j) := by
  show _ = (!PySem.W.dataLt (eS ps j) (eS ps i))
  unfold eS
  rw [PySem.W.dataLt_pair (by simp [PySem.W.alike, PySem.W.alikeAll, eP]) (by simp [PySem.W.alike]), eqv_pt, eqv_int]
  unfold eP
  rw [PySem.W.dataLt_ii, PySem.W.dataLt_int, Bool.eq_iff_iff, leS_iff]
  by_cases h1 : at_ ps j = at_ ps i
  · rw [if_pos (decide_eq_true h1), h1]
    by_cases h2 : j = i
    · subst h2; simp
    · simp [h2]
  · rw [if_neg (by simpa using h1)]
    rw [Prod.ext_iff] at h1
    simp only [Bool.not_eq_true', decide_eq_false_iff_not]
    omega
theorem leS_trans (ps : List Pt) (i j k : Int) : leS ps i j = true → leS ps j k = true → leS ps i k = true := by
  rw [leS_iff, leS_iff, leS_iff]
  omega
theorem leS_total (ps : List Pt) (i j : Int) : (leS ps i j || leS ps j i) = true := by
  rw [Bool.or_eq_true, leS_iff, leS_iff]
  omega
def sortS (ps : List Pt) (l : List Int) : List Int := l.mergeSort (leS ps)
theorem sortD_eS (ps : List Pt) (l : List Int) : sortD (l.map (eS ps)) = (sortS ps l).map (eS ps) := by
  unfold sortD sortS
  exact (List.map_mergeSort fun a _ b _ => le_eS ps a b).symm
theorem sortOk_eS (ps : List Pt) (l : List Int) (h : l.length ≤ 1000) : sortOk (l.map (eS ps)) = true := by
  have a1 : allAlike (l.map (eS ps)) = true := by
    unfold allAlike
    rw [List.all_eq_true]
    intro x hx
    rw [List.all_eq_true]
    intro y hy
    obtain ⟨i, _, rfl⟩ := List.mem_map.mp hx
    obtain ⟨j, _, rfl⟩ := List.mem_map.mp hy
    simp [eS, eP, PySem.W.alike, PySem.W.alikeAll]
  have a2 : PyData.depthAll (l.map (eS ps)) ≤ 2 := by
    clear a1 h
    induction l with
    | nil => simp [PyData.depthAll]
    | cons i l ih =>
      have : (eS ps i).depth = 2 := by simp [eS, eP, PyData.depth, PyData.depthAll]
      rw [List.map_cons, PyData.depthAll]
      omega
  have a3 : PyData.canLayAll0 (l.map (eS ps)) = true := by
    clear a1 a2 h
    induction l with
    | nil => rfl
    | cons i l ih => simp [PyData.canLayAll0, PyData.canLay0, eS, eP, ih]
  have a4 : (l.map (eS ps)).length ≤ SZ := by rw [List.length_map]; unfold SZ; omega
  unfold sortOk depthOk
  rw [a1, a3, decide_eq_true a4, decide_eq_true (show PyData.depthAll (l.map (eS ps)) ≤ 60 by omega)]
  simp [eS]
theorem sortS_perm (ps : List Pt) (l : List Int) : (sortS ps l).Perm l := List.mergeSort_perm l _
theorem sortS_pw (ps : List Pt) (l : List Int) : (sortS ps l).Pairwise fun i j => leS ps i j = true := List.pairwise_mergeSort (leS_trans ps) (leS_total ps) l
theorem lex_of_le {ps : List Pt} (g : ps.Nodup) {i j : Int} (hi : 0 ≤ i ∧ i < ps.length) (hj : 0 ≤ j ∧ j < ps.length) (hne : i ≠ j) (h : leS ps i j = true) : lexLt (at_ ps i) (at_ ps j) := by
  unfold leS at h
  simp only [Bool.or_eq_true, Bool.and_eq_true, decide_eq_true_eq] at h
  rcases h with h | h
  · exact h
  · exact absurd (at_inj g hi hj h.1) hne
theorem ends_ok {ps : List Pt} (g : ps.Nodup) {l : List Int} (hl : InR ps l) (h0 : l ≠ []) : ∃ a z : Int, subD (.list ((sortS ps l).map (eS ps))) (.int 0) = .ok (eS ps a) ∧ subD (.list ((sortS ps l).map (eS ps))) (.int (-1)) = .ok (eS ps z) ∧ a ∈ outs ps l ∧ z ∈ outs ps l := by
  have pm := sortS_perm ps l
  have pw := sortS_pw ps l
  generalize sortS ps l = m at *
  have hm : ∀ i, i ∈ m ↔ i ∈ l := fun i => pm.mem_iff
  have hm0 : m ≠ [] := fun e => h0 (by subst e; exact pm.symm.eq_nil)
  have hlen : 0 < m.length := List.length_pos_iff.mpr hm0
  refine ⟨m[0], m[m.length - 1], ?_, ?_, ?_, ?_⟩
  · show (match (ixD (m.map (eS ps)).length 0).bind ((m.map (eS ps))[·]?) with | some d => R.ok d | none => .bad) = _
    simp [ixD, hlen]
  · show (match (ixD (m.map (eS ps)).length (-1)).bind ((m.map (eS ps))[·]?) with | some d => R.ok d | none => .bad) = _
    have e : ixD (m.map (eS ps)).length (-1) = some (m.length - 1) := by
      unfold ixD
      rw [if_neg (by omega), List.length_map, if_pos (by omega)]
      congr 1
      omega
    rw [e]
    simp [List.getElem?_eq_getElem (show m.length - 1 < m.length by omega)]
  · refine out_least g hl ((hm _).mp (List.getElem_mem _)) fun j hj hne => ?_
    obtain ⟨k, hk, rfl⟩ := List.mem_iff_getElem.mp ((hm j).mpr hj)
    have hk0 : 0 < k := by
      rcases Nat.eq_zero_or_pos k with e | e
      · subst e; exact absurd rfl hne
      · exact e
    exact lex_of_le g (hl _ ((hm _).mp (List.getElem_mem _))) (hl _ hj) (Ne.symm hne) (List.pairwise_iff_getElem.mp pw 0 k hlen hk hk0)
  · refine out_greatest g hl ((hm _).mp (List.getElem_mem _)) fun j hj hne => ?_
    obtain ⟨k, hk, rfl⟩ := List.mem_iff_getElem.mp ((hm j).mpr hj)
    have hk0 : k < m.length - 1 := by
      apply Classical.byContradiction
      intro e
      have : k = m.length - 1 := by omega
      subst this
      exact absurd rfl hne
    exact lex_of_le g (hl _ hj) (hl _ ((hm _).mp (List.getElem_mem _))) hne (List.pairwise_iff_getElem.mp pw k _ hk (by omega) hk0)
/-! repr -/
theorem textFrom_le {B : Nat} : ∀ (ts : List Str) (k : Nat) (acc : Str), (∀ t ∈ ts, t.length ≤ B) → (PySem.textFrom k acc ts).length ≤ acc.length + ts.length * (B + 2)
  | [], k, acc, _ => by show acc.length ≤ _; omega
  | t :: r, k, acc, h => by
    have h1 := h t List.mem_cons_self
    have ih := textFrom_le r (k + 1) (acc ++ (if k > 0 then ", " else "" : String) ++ t) (fun u hu => h u (List.mem_cons_of_mem _ hu))
    have e : (acc ++ (if k > 0 then ", " else "" : String) ++ t).length ≤ acc.length + 2 + t.length := by
      rw [strLen_append, strLen_append]
      have : (Str.ofString (if k > 0 then ", " else "" : String)).length ≤ 2 := by split <;> decide
      omega
    show (PySem.textFrom (k + 1) _ r).length ≤ _
    rw [List.length_cons, Nat.succ_mul]
    omega
theorem shownAll_eI (l : List Int) : PyData.shownAll (eI l) = l.map fun i => Str.ofString (toString i) := by
  unfold eI
  induction l with
  | nil => rfl
  | cons i l ih => rw [List.map_cons, PyData.shownAll, ih]; rfl
theorem reprOk_ints (l : List Int) (n : Nat) (h : l.length ≤ 1000) (hb : ∀ i ∈ l, i.natAbs < 1000) : reprOk (.list (eI l)) = true := by
  have hlog : ∀ i ∈ l, i.natAbs.log2 < 1920 := fun i hi => Nat.lt_of_le_of_lt (Nat.log2_le_self _) (by have := hb i hi; omega)
  have s1 : PyData.showable (.list (eI l)) = true := by
    show PyData.showableAll (eI l) = true
    clear h hb
    unfold eI
    induction l with
    | nil => rfl
    | cons i l ih =>
      rw [List.map_cons, PyData.showableAll, ih fun j hj => hlog j (List.mem_cons_of_mem _ hj)]
      simp [PyData.showable, hlog i List.mem_cons_self]
  have s2 : PyData.canLay0 (.list (eI l)) = true := by
    have := (shaped_ints l).1
    unfold SeqAt.shaped at this
    rw [Bool.and_eq_true] at this
    exact this.1
  have s3 : (PyData.list (eI l)).depth ≤ 60 := by
    have : PyData.depthAll (eI l) = 0 := PySem.W.depth_ints l
    rw [PyData.depth]
    omega
  have s4 : (PyData.list (eI l)).shown.length ≤ SZ := by
    show (PySem.textFrom 0 "[" (PyData.shownAll (eI l)) ++ "]").length ≤ SZ
    rw [shownAll_eI, strLen_append]
    have := textFrom_le (B := 1921) (l.map fun i => Str.ofString (toString i)) 0 "[" (fun t ht => by
      obtain ⟨i, hi, rfl⟩ := List.mem_map.mp ht
      exact PyProof.Rows.int_text_len_1921 (hlog i hi))
    rw [List.length_map] at this
    have e1 : (Str.ofString "[").length = 1 := by decide
    have e2 : (Str.ofString "]").length = 1 := by decide
    unfold SZ
    omega
  unfold reprOk
  rw [s1, s2, decide_eq_true s3, decide_eq_true s4]
  rfl
end Lw

end
section
namespace Lw
open PySem hiding Env
open Pv
theorem eqv_intsL (l m : List Int) : PyData.eqv (.list (eI l)) (.list (eI m)) = decide (l = m) := eqv_ints l m
noncomputable def st1 : CS := .par [6, 7] (.cons (.call f__law_outer "_law_outer" (.cons (.var 3) (.cons (.bi .list (.cons (.var 5) .nil)) .nil)) []) (.cons (.call f_outer_points "outer_points" (.cons (.var 3) (.cons (.var 5) .nil)) []) .nil))
noncomputable def st2 : CS := .ifs (.or (.not (.val (.isi (.var 7) "list"))) (.or (.val (.cmp .ne (.bi .repr (.cons (.var 7) .nil)) (.bi .repr (.cons (.var 6) .nil)))) (.val (.cmp .ne (.bi .repr (.cons (.call f_outer_points "outer_points" (.cons (.var 5) (.cons (.var 3) .nil)) [1, 0]) .nil)) (.bi .repr (.cons (.var 6) .nil)))))) [.ret (.k (.bool false))] []
noncomputable def st3 : CS := .app 7 (.k (.str "spoilt"))
noncomputable def st4 : CS := .set 8 (.bi .sorted (.cons (.lc (.tup (.cons (.sub (.var 3) (.var 10)) (.cons (.var 10) .nil))) (.seq (.var 5)) (.one 10) .nil [10]) .nil))
noncomputable def st5 : CS := .ifs (.or (.val (.cmp .ne (.call f_outer_points "outer_points" (.cons (.var 3) (.cons (.var 5) .nil)) []) (.var 6))) (.or (.val (.cmp .notin (.sub (.sub (.var 8) (.k (.int 0))) (.k (.int 1))) (.var 6))) (.val (.cmp .notin (.sub (.sub (.var 8) (.un .neg (.k (.int 1)))) (.k (.int 1))) (.var 6))))) [.ret (.k (.bool false))] []
noncomputable def st6 : CS := .set 9 (.slc (.lc (.var 10) (.seq (.var 5)) (.one 10) (.cons (.val (.cmp .notin (.var 10) (.var 6))) .nil) [10]) .nil (.cons (.k (.int 1)) .nil))
noncomputable def st7 : CS := .ifs (.val (.cmp .ne (.call f_outer_points "outer_points" (.cons (.var 3) (.cons (.bi .tuple (.cons (.lc (.var 10) (.seq (.var 5)) (.one 10) (.cons (.val (.cmp .notin (.var 10) (.var 9))) .nil) [10]) .nil)) .nil)) []) (.var 6))) [.ret (.k (.bool false))] []
noncomputable def st8 : CS := .ifs (.or (.val (.cmp .ne (.call f_outer_points "outer_points" (.cons (.call f__law_moved "_law_moved" (.cons (.var 2) (.cons (.var 3) .nil)) []) (.cons (.var 5) .nil)) []) (.var 6))) (.and (.val (.cmp .lt (.bi .len (.cons (.var 5) .nil)) (.k (.int 3)))) (.val (.cmp .ne (.var 6) (.bi .list (.cons (.var 5) .nil)))))) [.ret (.k (.bool false))] []
variable {ps : List Pt} {l : List Int}
abbrev en (s0 s1 x4 : Option (Bool × D)) (d : D) (ps : List Pt) (l : List Int) (x6 x7 x8 x9 x10 : Option (Bool × D)) : Pv.Env := [s0, s1, some (true, d), some (false, .tuple (ps.map eP)), x4, some (false, .tuple (eI l)), x6, x7, x8, x9, x10]
theorem s1_ok (g : Good ps) (ok : okLeft l ps.length = true) (h0 : l ≠ []) (s0 s1 x4 x6 x7 x8 x9 x10 : Option (Bool × D)) (d : D) :
    exS st1 (en s0 s1 x4 d ps l x6 x7 x8 x9 x10) = .ok (.next, en s0 s1 x4 d ps l (some (true, .list (eI (outs ps l)))) (some (true, .list (eI (outs ps l)))) x8 x9 x10) := by
  have few := g.few
  have lq := (okLeft_iff _ _).mp ok
  have e1 := den_law_outer ps l g.near (okLeft_at ok) (by omega)
  have e2 := den_outer_points ps l g ok h0
  rw [outs_law g.nd (okLeft_at ok)] at e1
  simp [en, st1, mkFn, exSs, e_var, e_k, e_bin, e_un, e_land, e_lor, e_cmp, e_chain, e_ite, e_tst, e_tup, e_lst, e_sub, e_slc, e_call, e_bi, e_pop, e_isi, x_set, x_setT, x_par, x_put, x_aug, x_ifs, x_expr, x_app, x_raise, x_brk, x_cont, x_pass, x_retv, x_rete, evEs, evFs, evOs, evAs, evO, evT, evTs, evI, opnd, look, looks, slotD, share, ownD, isOwnL, bindT_one, Pv.setE, isMut, argFlags, slotsApart, argsIn, argIn, argsOut, permL, ioOp, outsOf, truthR, bop_addI, bop_subI, bop_pow10, cop, ordD, uop, bi, Pv.plain, Pv.fresh, subD_p0, subD_p1, bindT_eP, isMut_eP, R.ok_bind, itemsOf, io_law_outer, io_outer_points, e1, e2]
theorem strOk_append (a b : Str) (ha : PyData.strOk a = true) (hb : PyData.strOk b = true) : PyData.strOk (a ++ b) = true := by
  unfold PyData.strOk at ha hb ⊢
  show (a.cps ++ b.cps).all _ = true
  rw [Array.all_append, ha, hb]
  rfl
theorem strOk_of (s : String) : PyData.strOk (Str.ofString s) = true := by
  unfold PyData.strOk
  rw [Str.ofString_eq_toList]
  rw [Array.all_eq_true_iff_forall_mem]
  intro x hx
  simp at hx
  obtain ⟨c, _, rfl⟩ := hx
  have := c.valid
  have e : c.toNat = c.val.toNat := rfl
  rw [decide_eq_true_eq, e]
  rcases this with h | h
  · exact Nat.lt_trans h (by decide)
  · exact h.2
theorem strOk_from : ∀ (ts : List Str) (k : Nat) (acc : Str), PyData.strOk acc = true → (∀ t ∈ ts, PyData.strOk t = true) → PyData.strOk (PySem.textFrom k acc ts) = true
  | [], _, acc, h, _ => h
  | t :: r, k, acc, h, ht => strOk_from r (k + 1) _ (strOk_append _ _ (strOk_append _ _ h (strOk_of _)) (ht t List.mem_cons_self)) fun u hu => ht u (List.mem_cons_of_mem _ hu)
theorem strOk_ints (l : List Int) : PyData.strOk (PyData.shown (.list (eI l))) = true := by
  show PyData.strOk (PySem.textFrom 0 "[" (PyData.shownAll (eI l)) ++ "]") = true
  refine strOk_append _ _ (strOk_from _ 0 _ (strOk_of _) fun t ht => ?_) (strOk_of _)
  rw [shownAll_eI] at ht
  obtain ⟨i, _, rfl⟩ := List.mem_map.mp ht
  exact strOk_of _
theorem evT_cmp {o : COp} {a b : CE} {r : Pv.Env} {u v : D} {z : Bool} (ha : opnd a (evE a) r = .ok (.inr u, r)) (hb : opnd b (evE b) r = .ok (.inr v, r)) (hc : cop o u v = .ok z) : evT (.val (.cmp o a b)) r = .ok (z, r) := by
  have : evE (.cmp o a b) r = .ok (false, .bool z, r) := by
    rw [e_cmp, ha]
    show (opnd b (evE b) r >>= _) = _
    rw [hb]
    show (cop o u v >>= _) = _
    rw [hc]
    rfl
  show ((evE (.cmp o a b) r >>= _) >>= _) = _
  rw [this]
  rfl
theorem evE_bi1 {b : Bi} {c : CE} {r : Pv.Env} {u z : D} {fr : Bool} (hc : opnd c (evE c) r = .ok (.inr u, r)) (hb : bi b [u] = .ok (fr, z)) : evE (.bi b (.cons c .nil)) r = .ok (fr, z, r) := by
  rw [e_bi]
  have : evOs (.cons c .nil) r = .ok ([.inr u], r) := by
    show (opnd c (evE c) r >>= _) = _
    rw [hc]
    rfl
  rw [this]
  show (bi b [u] >>= _) = _
  rw [hb]
  rfl
theorem opnd_bi {b : Bi} {c : CEs} {r r' : Pv.Env} {z : D} {fr : Bool} (h : evE (.bi b c) r = .ok (fr, z, r')) : opnd (.bi b c) (evE (.bi b c)) r = .ok (.inr z, r') := by
  show (evE (.bi b c) r >>= _) = _
  rw [h]
  rfl
theorem s2_ok (g : Good ps) (ok : okLeft l ps.length = true) (h0 : l ≠ []) (s0 s1 x4 x8 x9 x10 : Option (Bool × D)) (d : D) :
    exS st2 (en s0 s1 x4 d ps l (some (true, .list (eI (outs ps l)))) (some (true, .list (eI (outs ps l)))) x8 x9 x10) = .ok (.next, en s0 s1 x4 d ps l (some (true, .list (eI (outs ps l)))) (some (true, .list (eI (outs ps l)))) x8 x9 x10) := by
  have few := g.few
  have lq := (okLeft_iff _ _).mp ok
  have e2 := den_outer_points ps l g ok h0
  have sl : (outs ps l).length ≤ l.length := List.length_filter_le _ _
  have rp : reprOk (.list (eI (outs ps l))) = true := reprOk_ints _ 0 (by omega) fun i hi => by
    have := lq.2.1 i (List.mem_filter.mp hi).1
    omega
  generalize hr : (en s0 s1 x4 d ps l (some (true, .list (eI (outs ps l)))) (some (true, .list (eI (outs ps l)))) x8 x9 x10) = r
  generalize hx : PyData.shown (.list (eI (outs ps l))) = tx
  have r6 : r[6]? = some (some (true, .list (eI (outs ps l)))) := by rw [← hr]; rfl
  have r7 : r[7]? = some (some (true, .list (eI (outs ps l)))) := by rw [← hr]; rfl
  have t1 : evT (.not (.val (.isi (.var 7) "list"))) r = .ok (false, r) := by
    simp [mkFn, exSs, e_var, e_k, e_bin, e_un, e_land, e_lor, e_cmp, e_chain, e_ite, e_tst, e_tup, e_lst, e_sub, e_slc, e_call, e_bi, e_pop, e_isi, x_set, x_setT, x_par, x_put, x_aug, x_ifs, x_expr, x_app, x_raise, x_brk, x_cont, x_pass, x_retv, x_rete, evEs, evFs, evOs, evAs, evO, evT, evTs, evI, opnd, look, looks, slotD, share, ownD, isOwnL, bindT_one, Pv.setE, isMut, argFlags, slotsApart, argsIn, argIn, argsOut, permL, ioOp, outsOf, truthR, bop_addI, bop_subI, bop_pow10, cop, ordD, uop, bi, Pv.plain, Pv.fresh, subD_p0, subD_p1, bindT_eP, isMut_eP, R.ok_bind, itemsOf, r7, isT, tyName]
  have t2 : evE (.bi .repr (.cons (.var 7) .nil)) r = .ok (false, .str tx, r) := by
    simp [mkFn, exSs, e_var, e_k, e_bin, e_un, e_land, e_lor, e_cmp, e_chain, e_ite, e_tst, e_tup, e_lst, e_sub, e_slc, e_call, e_bi, e_pop, e_isi, x_set, x_setT, x_par, x_put, x_aug, x_ifs, x_expr, x_app, x_raise, x_brk, x_cont, x_pass, x_retv, x_rete, evEs, evFs, evOs, evAs, evO, evT, evTs, evI, opnd, look, looks, slotD, share, ownD, isOwnL, bindT_one, Pv.setE, isMut, argFlags, slotsApart, argsIn, argIn, argsOut, permL, ioOp, outsOf, truthR, bop_addI, bop_subI, bop_pow10, cop, ordD, uop, bi, Pv.plain, Pv.fresh, subD_p0, subD_p1, bindT_eP, isMut_eP, R.ok_bind, itemsOf, r7, rp, hx]
  have t3 : evE (.bi .repr (.cons (.var 6) .nil)) r = .ok (false, .str tx, r) := by
    simp [mkFn, exSs, e_var, e_k, e_bin, e_un, e_land, e_lor, e_cmp, e_chain, e_ite, e_tst, e_tup, e_lst, e_sub, e_slc, e_call, e_bi, e_pop, e_isi, x_set, x_setT, x_par, x_put, x_aug, x_ifs, x_expr, x_app, x_raise, x_brk, x_cont, x_pass, x_retv, x_rete, evEs, evFs, evOs, evAs, evO, evT, evTs, evI, opnd, look, looks, slotD, share, ownD, isOwnL, bindT_one, Pv.setE, isMut, argFlags, slotsApart, argsIn, argIn, argsOut, permL, ioOp, outsOf, truthR, bop_addI, bop_subI, bop_pow10, cop, ordD, uop, bi, Pv.plain, Pv.fresh, subD_p0, subD_p1, bindT_eP, isMut_eP, R.ok_bind, itemsOf, r6, rp, hx]
  have t4 : evE (.call f_outer_points "outer_points" (.cons (.var 5) (.cons (.var 3) .nil)) [1, 0]) r = .ok (true, .list (eI (outs ps l)), r) := by
    rw [← hr]
    simp [en, mkFn, exSs, e_var, e_k, e_bin, e_un, e_land, e_lor, e_cmp, e_chain, e_ite, e_tst, e_tup, e_lst, e_sub, e_slc, e_call, e_bi, e_pop, e_isi, x_set, x_setT, x_par, x_put, x_aug, x_ifs, x_expr, x_app, x_raise, x_brk, x_cont, x_pass, x_retv, x_rete, evEs, evFs, evOs, evAs, evO, evT, evTs, evI, opnd, look, looks, slotD, share, ownD, isOwnL, bindT_one, Pv.setE, isMut, argFlags, slotsApart, argsIn, argIn, argsOut, permL, ioOp, outsOf, truthR, bop_addI, bop_subI, bop_pow10, cop, ordD, uop, bi, Pv.plain, Pv.fresh, subD_p0, subD_p1, bindT_eP, isMut_eP, R.ok_bind, itemsOf, io_outer_points, e2]
  have o4 : opnd (CE.call f_outer_points "outer_points" (.cons (.var 5) (.cons (.var 3) .nil)) [1, 0]) (evE (CE.call f_outer_points "outer_points" (.cons (.var 5) (.cons (.var 3) .nil)) [1, 0])) r = .ok (.inr (.list (eI (outs ps l))), r) := by
    show (evE _ r >>= _) = _
    rw [t4]
    rfl
  unfold st2
  generalize (CE.call f_outer_points "outer_points" (.cons (.var 5) (.cons (.var 3) .nil)) [1, 0]) = c at *
  have bs : bi .repr [.list (eI (outs ps l))] = .ok (false, .str tx) := by
    show (if reprOk (.list (eI (outs ps l))) = true then Pv.plain _ else _) = _
    rw [if_pos rp, hx]
    rfl
  have sk : PyData.strOk tx = true := by rw [← hx]; exact strOk_ints _
  have sh : cop .ne (.str tx) (.str tx) = .ok false := by simp [cop, SeqAt.shaped, PyData.canLay0, PyData.depth, PyData.eqv, sk]
  have t6 : evT (.val (.cmp .ne (.bi .repr (.cons (.var 7) .nil)) (.bi .repr (.cons (.var 6) .nil)))) r = .ok (false, r) := evT_cmp (opnd_bi t2) (opnd_bi t3) sh
  have t7 : evT (.val (.cmp .ne (.bi .repr (.cons c .nil)) (.bi .repr (.cons (.var 6) .nil)))) r = .ok (false, r) := evT_cmp (opnd_bi (evE_bi1 o4 bs)) (opnd_bi t3) sh
  rw [x_ifs, evT, t1]
  show (evT _ r >>= _) = _
  rw [evT, t6]
  show (evT _ r >>= _) = _
  rw [t7]
  rfl
theorem s3_ok (s0 s1 x4 x6 x8 x9 x10 : Option (Bool × D)) (d : D) (m : List Int) (hm : m.length ≤ 1000) :
    exS st3 (en s0 s1 x4 d ps l x6 (some (true, .list (eI m))) x8 x9 x10) = .ok (.next, en s0 s1 x4 d ps l x6 (some (true, .list (eI m ++ [.str "spoilt"]))) x8 x9 x10) := by
  have : (eI m).length < SZ := by simp [eI, SZ]; omega
  simp [st3, mkFn, exSs, e_var, e_k, e_bin, e_un, e_land, e_lor, e_cmp, e_chain, e_ite, e_tst, e_tup, e_lst, e_sub, e_slc, e_call, e_bi, e_pop, e_isi, x_set, x_setT, x_par, x_put, x_aug, x_ifs, x_expr, x_app, x_raise, x_brk, x_cont, x_pass, x_retv, x_rete, evEs, evFs, evOs, evAs, evO, evT, evTs, evI, opnd, look, looks, slotD, share, ownD, isOwnL, bindT_one, Pv.setE, isMut, argFlags, slotsApart, argsIn, argIn, argsOut, permL, ioOp, outsOf, truthR, bop_addI, bop_subI, bop_pow10, cop, ordD, uop, bi, Pv.plain, Pv.fresh, subD_p0, subD_p1, bindT_eP, isMut_eP, R.ok_bind, itemsOf, this]
theorem s4_ok (g : Good ps) (ok : okLeft l ps.length = true) (s0 s1 x4 x6 x7 x8 x9 : Option (Bool × D)) (d : D) :
    exS st4 (en s0 s1 x4 d ps l x6 x7 x8 x9 none) = .ok (.next, en s0 s1 x4 d ps l x6 x7 (some (true, .list ((sortS ps l).map (eS ps)))) x9 none) := by
  have few := g.few
  have lq := (okLeft_iff _ _).mp ok
  have h : evE (.lc (.tup (.cons (.sub (.var 3) (.var 10)) (.cons (.var 10) .nil))) (.seq (.var 5)) (.one 10) .nil [10]) (en s0 s1 x4 d ps l x6 x7 x8 x9 none) = .ok (true, .list (l.flatMap fun i => [eS ps i]), en s0 s1 x4 d ps l x6 x7 x8 x9 none) := by
    refine ev_lc (enc := PyData.int) (by simp [mkFn, exSs, e_var, e_k, e_bin, e_un, e_land, e_lor, e_cmp, e_chain, e_ite, e_tst, e_tup, e_lst, e_sub, e_slc, e_call, e_bi, e_pop, e_isi, x_set, x_setT, x_par, x_put, x_aug, x_ifs, x_expr, x_app, x_raise, x_brk, x_cont, x_pass, x_retv, x_rete, evEs, evFs, evOs, evAs, evO, evT, evTs, evI, opnd, look, looks, slotD, share, ownD, isOwnL, bindT_one, Pv.setE, isMut, argFlags, slotsApart, argsIn, argIn, argsOut, permL, ioOp, outsOf, truthR, bop_addI, bop_subI, bop_pow10, cop, ordD, uop, bi, Pv.plain, Pv.fresh, subD_p0, subD_p1, bindT_eP, isMut_eP, R.ok_bind, itemsOf, eI]) (by simp [ownOk]) (fun x hx acc ha => ?_) (fun _ => Nat.le_refl 1) (by simp [SZ]; omega)
    simp [lcStep, mkFn, exSs, e_var, e_k, e_bin, e_un, e_land, e_lor, e_cmp, e_chain, e_ite, e_tst, e_tup, e_lst, e_sub, e_slc, e_call, e_bi, e_pop, e_isi, x_set, x_setT, x_par, x_put, x_aug, x_ifs, x_expr, x_app, x_raise, x_brk, x_cont, x_pass, x_retv, x_rete, evEs, evFs, evOs, evAs, evO, evT, evTs, evI, opnd, look, looks, slotD, share, ownD, isOwnL, bindT_one, Pv.setE, isMut, argFlags, slotsApart, argsIn, argIn, argsOut, permL, ioOp, outsOf, truthR, bop_addI, bop_subI, bop_pow10, cop, ordD, uop, bi, Pv.plain, Pv.fresh, subD_p0, subD_p1, bindT_eP, isMut_eP, R.ok_bind, itemsOf, ha, wipeE, wipeF, subD_at (lq.2.1 x hx), eS]
  rw [flatMap_map] at h
  simp [en, st4, mkFn, exSs, e_var, e_k, e_bin, e_un, e_land, e_lor, e_cmp, e_chain, e_ite, e_tst, e_tup, e_lst, e_sub, e_slc, e_call, e_bi, e_pop, e_isi, x_set, x_setT, x_par, x_put, x_aug, x_ifs, x_expr, x_app, x_raise, x_brk, x_cont, x_pass, x_retv, x_rete, evEs, evFs, evOs, evAs, evO, evT, evTs, evI, opnd, look, looks, slotD, share, ownD, isOwnL, bindT_one, Pv.setE, isMut, argFlags, slotsApart, argsIn, argIn, argsOut, permL, ioOp, outsOf, truthR, bop_addI, bop_subI, bop_pow10, cop, ordD, uop, bi, Pv.plain, Pv.fresh, subD_p0, subD_p1, bindT_eP, isMut_eP, R.ok_bind, itemsOf, h, sortOk_eS ps l (by omega), sortD_eS]
theorem s5_ok (g : Good ps) (ok : okLeft l ps.length = true) (h0 : l ≠ []) (s0 s1 x4 x7 x9 : Option (Bool × D)) (d : D) :
    exS st5 (en s0 s1 x4 d ps l (some (true, .list (eI (outs ps l)))) x7 (some (true, .list ((sortS ps l).map (eS ps)))) x9 none) = .ok (.next, en s0 s1 x4 d ps l (some (true, .list (eI (outs ps l)))) x7 (some (true, .list ((sortS ps l).map (eS ps)))) x9 none) := by
  have few := g.few
  have lq := (okLeft_iff _ _).mp ok
  have e2 := den_outer_points ps l g ok h0
  obtain ⟨a, z, h1, h2, h3, h4⟩ := ends_ok g.nd lq.2.1 h0
  have a1 : ∀ i, subD (eS ps i) (.int 1) = .ok (.int i) := fun i => rfl
  simp [st5, mkFn, exSs, e_var, e_k, e_bin, e_un, e_land, e_lor, e_cmp, e_chain, e_ite, e_tst, e_tup, e_lst, e_sub, e_slc, e_call, e_bi, e_pop, e_isi, x_set, x_setT, x_par, x_put, x_aug, x_ifs, x_expr, x_app, x_raise, x_brk, x_cont, x_pass, x_retv, x_rete, evEs, evFs, evOs, evAs, evO, evT, evTs, evI, opnd, look, looks, slotD, share, ownD, isOwnL, bindT_one, Pv.setE, isMut, argFlags, slotsApart, argsIn, argIn, argsOut, permL, ioOp, outsOf, truthR, bop_addI, bop_subI, bop_pow10, cop, ordD, uop, bi, Pv.plain, Pv.fresh, subD_p0, subD_p1, bindT_eP, isMut_eP, R.ok_bind, itemsOf, io_outer_points, e2, h1, h2, a1, isin_ints, h3, h4, shaped_ints, eqv_intsL]
def lessOf (ps : List Pt) (l : List Int) : List Int := (l.filter fun i => decide (i ∉ outs ps l)).take 1
theorem s6_ok (g : Good ps) (ok : okLeft l ps.length = true) (s0 s1 x4 x7 x8 x9 : Option (Bool × D)) (d : D) :
    exS st6 (en s0 s1 x4 d ps l (some (true, .list (eI (outs ps l)))) x7 x8 x9 none) = .ok (.next, en s0 s1 x4 d ps l (some (true, .list (eI (outs ps l)))) x7 x8 (some (true, .list (eI (lessOf ps l)))) none) := by
  have few := g.few
  have lq := (okLeft_iff _ _).mp ok
  have h : evE (.lc (.var 10) (.seq (.var 5)) (.one 10) (.cons (.val (.cmp .notin (.var 10) (.var 6))) .nil) [10]) (en s0 s1 x4 d ps l (some (true, .list (eI (outs ps l)))) x7 x8 x9 none) = .ok (true, .list (l.flatMap fun i => if decide (i ∉ outs ps l) then [.int i] else []), en s0 s1 x4 d ps l (some (true, .list (eI (outs ps l)))) x7 x8 x9 none) := by
    refine ev_lc (enc := PyData.int) (by simp [mkFn, exSs, e_var, e_k, e_bin, e_un, e_land, e_lor, e_cmp, e_chain, e_ite, e_tst, e_tup, e_lst, e_sub, e_slc, e_call, e_bi, e_pop, e_isi, x_set, x_setT, x_par, x_put, x_aug, x_ifs, x_expr, x_app, x_raise, x_brk, x_cont, x_pass, x_retv, x_rete, evEs, evFs, evOs, evAs, evO, evT, evTs, evI, opnd, look, looks, slotD, share, ownD, isOwnL, bindT_one, Pv.setE, isMut, argFlags, slotsApart, argsIn, argIn, argsOut, permL, ioOp, outsOf, truthR, bop_addI, bop_subI, bop_pow10, cop, ordD, uop, bi, Pv.plain, Pv.fresh, subD_p0, subD_p1, bindT_eP, isMut_eP, R.ok_bind, itemsOf, eI]) (by simp [ownOk]) (fun x hx acc ha => ?_) (fun _ => by split <;> simp) (by simp [SZ]; omega)
    by_cases hm : x ∈ outs ps l
    · simp [lcStep, mkFn, exSs, e_var, e_k, e_bin, e_un, e_land, e_lor, e_cmp, e_chain, e_ite, e_tst, e_tup, e_lst, e_sub, e_slc, e_call, e_bi, e_pop, e_isi, x_set, x_setT, x_par, x_put, x_aug, x_ifs, x_expr, x_app, x_raise, x_brk, x_cont, x_pass, x_retv, x_rete, evEs, evFs, evOs, evAs, evO, evT, evTs, evI, opnd, look, looks, slotD, share, ownD, isOwnL, bindT_one, Pv.setE, isMut, argFlags, slotsApart, argsIn, argIn, argsOut, permL, ioOp, outsOf, truthR, bop_addI, bop_subI, bop_pow10, cop, ordD, uop, bi, Pv.plain, Pv.fresh, subD_p0, subD_p1, bindT_eP, isMut_eP, R.ok_bind, itemsOf, ha, wipeE, wipeF, isin_ints, hm]
    · simp [lcStep, mkFn, exSs, e_var, e_k, e_bin, e_un, e_land, e_lor, e_cmp, e_chain, e_ite, e_tst, e_tup, e_lst, e_sub, e_slc, e_call, e_bi, e_pop, e_isi, x_set, x_setT, x_par, x_put, x_aug, x_ifs, x_expr, x_app, x_raise, x_brk, x_cont, x_pass, x_retv, x_rete, evEs, evFs, evOs, evAs, evO, evT, evTs, evI, opnd, look, looks, slotD, share, ownD, isOwnL, bindT_one, Pv.setE, isMut, argFlags, slotsApart, argsIn, argIn, argsOut, permL, ioOp, outsOf, truthR, bop_addI, bop_subI, bop_pow10, cop, ordD, uop, bi, Pv.plain, Pv.fresh, subD_p0, subD_p1, bindT_eP, isMut_eP, R.ok_bind, itemsOf, ha, wipeE, wipeF, isin_ints, hm]
  rw [flatMap_filter] at h
  have c1 : cutD ((l.filter fun i => decide (i ∉ outs ps l)).map PyData.int) none (some 1) = eI (lessOf ps l) := by
    unfold lessOf
    rw [← take_eI]
    exact cut_to _ 1
  have c2 : cutD ((l.filter fun i => !decide (i ∈ outs ps l)).map PyData.int) none (some 1) = eI (lessOf ps l) := by
    rw [← c1]
    congr 2
    exact List.filter_congr fun i _ => by simp
  simp [st6, mkFn, exSs, e_var, e_k, e_bin, e_un, e_land, e_lor, e_cmp, e_chain, e_ite, e_tst, e_tup, e_lst, e_sub, e_slc, e_call, e_bi, e_pop, e_isi, x_set, x_setT, x_par, x_put, x_aug, x_ifs, x_expr, x_app, x_raise, x_brk, x_cont, x_pass, x_retv, x_rete, evEs, evFs, evOs, evAs, evO, evT, evTs, evI, opnd, look, looks, slotD, share, ownD, isOwnL, bindT_one, Pv.setE, isMut, argFlags, slotsApart, argsIn, argIn, argsOut, permL, ioOp, outsOf, truthR, bop_addI, bop_subI, bop_pow10, cop, ordD, uop, bi, Pv.plain, Pv.fresh, subD_p0, subD_p1, bindT_eP, isMut_eP, R.ok_bind, itemsOf, h, slcD, c2]
def restOf (ps : List Pt) (l : List Int) : List Int := l.filter fun i => decide (i ∉ lessOf ps l)
theorem rest_ok (g : Good ps) (ok : okLeft l ps.length = true) (h0 : l ≠ []) : okLeft (restOf ps l) ps.length = true ∧ restOf ps l ≠ [] ∧ outs ps (restOf ps l) = outs ps l := by
  have lq := (okLeft_iff _ _).mp ok
  have o1 : okLeft (restOf ps l) ps.length = true := okLeft_sub List.filter_sublist ok
  cases hf : (l.filter fun i => decide (i ∉ outs ps l)) with
  | nil =>
    have e : restOf ps l = l := by
      unfold restOf lessOf
      rw [hf]
      simp
    exact ⟨o1, by rw [e]; exact h0, by rw [e]⟩
  | cons i r =>
    have hi : i ∈ l.filter fun i => decide (i ∉ outs ps l) := by rw [hf]; exact List.mem_cons_self
    rw [List.mem_filter] at hi
    have e : restOf ps l = l.filter fun j => decide (j ≠ i) := by
      unfold restOf lessOf
      rw [hf]
      simp
    refine ⟨o1, ?_, by rw [e]; exact outs_less g.nd lq.2.1 hi.1 (by simpa using hi.2)⟩
    rw [e]
    intro c
    obtain ⟨a, z, _, _, h3, _⟩ := ends_ok g.nd lq.2.1 h0
    have ha := (List.mem_filter.mp h3).1
    have hne : a ≠ i := fun q => (by simpa using hi.2 : i ∉ outs ps l) (q ▸ h3)
    have : a ∈ l.filter fun j => decide (j ≠ i) := List.mem_filter.mpr ⟨ha, by simpa using hne⟩
    rw [c] at this
    cases this
theorem s7_ok (g : Good ps) (ok : okLeft l ps.length = true) (h0 : l ≠ []) (s0 s1 x4 x7 x8 : Option (Bool × D)) (d : D) :
    exS st7 (en s0 s1 x4 d ps l (some (true, .list (eI (outs ps l)))) x7 x8 (some (true, .list (eI (lessOf ps l)))) none) = .ok (.next, en s0 s1 x4 d ps l (some (true, .list (eI (outs ps l)))) x7 x8 (some (true, .list (eI (lessOf ps l)))) none) := by
  have few := g.few
  have lq := (okLeft_iff _ _).mp ok
  obtain ⟨q1, q2, q3⟩ := rest_ok g ok h0
  have e2 := den_outer_points ps _ g q1 q2
  rw [q3] at e2
  have h : evE (.lc (.var 10) (.seq (.var 5)) (.one 10) (.cons (.val (.cmp .notin (.var 10) (.var 9))) .nil) [10]) (en s0 s1 x4 d ps l (some (true, .list (eI (outs ps l)))) x7 x8 (some (true, .list (eI (lessOf ps l)))) none) = .ok (true, .list (l.flatMap fun i => if decide (i ∉ lessOf ps l) then [.int i] else []), en s0 s1 x4 d ps l (some (true, .list (eI (outs ps l)))) x7 x8 (some (true, .list (eI (lessOf ps l)))) none) := by
    refine ev_lc (enc := PyData.int) (by simp [mkFn, exSs, e_var, e_k, e_bin, e_un, e_land, e_lor, e_cmp, e_chain, e_ite, e_tst, e_tup, e_lst, e_sub, e_slc, e_call, e_bi, e_pop, e_isi, x_set, x_setT, x_par, x_put, x_aug, x_ifs, x_expr, x_app, x_raise, x_brk, x_cont, x_pass, x_retv, x_rete, evEs, evFs, evOs, evAs, evO, evT, evTs, evI, opnd, look, looks, slotD, share, ownD, isOwnL, bindT_one, Pv.setE, isMut, argFlags, slotsApart, argsIn, argIn, argsOut, permL, ioOp, outsOf, truthR, bop_addI, bop_subI, bop_pow10, cop, ordD, uop, bi, Pv.plain, Pv.fresh, subD_p0, subD_p1, bindT_eP, isMut_eP, R.ok_bind, itemsOf, eI]) (by simp [ownOk]) (fun x hx acc ha => ?_) (fun _ => by split <;> simp) (by simp [SZ]; omega)
    by_cases hm : x ∈ lessOf ps l
    · simp [lcStep, mkFn, exSs, e_var, e_k, e_bin, e_un, e_land, e_lor, e_cmp, e_chain, e_ite, e_tst, e_tup, e_lst, e_sub, e_slc, e_call, e_bi, e_pop, e_isi, x_set, x_setT, x_par, x_put, x_aug, x_ifs, x_expr, x_app, x_raise, x_brk, x_cont, x_pass, x_retv, x_rete, evEs, evFs, evOs, evAs, evO, evT, evTs, evI, opnd, look, looks, slotD, share, ownD, isOwnL, bindT_one, Pv.setE, isMut, argFlags, slotsApart, argsIn, argIn, argsOut, permL, ioOp, outsOf, truthR, bop_addI, bop_subI, bop_pow10, cop, ordD, uop, bi, Pv.plain, Pv.fresh, subD_p0, subD_p1, bindT_eP, isMut_eP, R.ok_bind, itemsOf, ha, wipeE, wipeF, isin_ints, hm]
    · simp [lcStep, mkFn, exSs, e_var, e_k, e_bin, e_un, e_land, e_lor, e_cmp, e_chain, e_ite, e_tst, e_tup, e_lst, e_sub, e_slc, e_call, e_bi, e_pop, e_isi, x_set, x_setT, x_par, x_put, x_aug, x_ifs, x_expr, x_app, x_raise, x_brk, x_cont, x_pass, x_retv, x_rete, evEs, evFs, evOs, evAs, evO, evT, evTs, evI, opnd, look, looks, slotD, share, ownD, isOwnL, bindT_one, Pv.setE, isMut, argFlags, slotsApart, argsIn, argIn, argsOut, permL, ioOp, outsOf, truthR, bop_addI, bop_subI, bop_pow10, cop, ordD, uop, bi, Pv.plain, Pv.fresh, subD_p0, subD_p1, bindT_eP, isMut_eP, R.ok_bind, itemsOf, ha, wipeE, wipeF, isin_ints, hm]
  rw [flatMap_filter] at h
  have e3 : (l.filter fun i => decide (i ∉ lessOf ps l)).map PyData.int = eI (restOf ps l) := rfl
  rw [e3] at h
  simp [st7, mkFn, exSs, e_var, e_k, e_bin, e_un, e_land, e_lor, e_cmp, e_chain, e_ite, e_tst, e_tup, e_lst, e_sub, e_slc, e_call, e_bi, e_pop, e_isi, x_set, x_setT, x_par, x_put, x_aug, x_ifs, x_expr, x_app, x_raise, x_brk, x_cont, x_pass, x_retv, x_rete, evEs, evFs, evOs, evAs, evO, evT, evTs, evI, opnd, look, looks, slotD, share, ownD, isOwnL, bindT_one, Pv.setE, isMut, argFlags, slotsApart, argsIn, argIn, argsOut, permL, ioOp, outsOf, truthR, bop_addI, bop_subI, bop_pow10, cop, ordD, uop, bi, Pv.plain, Pv.fresh, subD_p0, subD_p1, bindT_eP, isMut_eP, R.ok_bind, itemsOf, h, io_outer_points, e2, shaped_ints, eqv_intsL]
theorem s8_ok (g : Good ps) (ok : okLeft l ps.length = true) (h0 : l ≠ []) (s0 s1 x4 x7 x8 x9 : Option (Bool × D)) {n : Nat} {d : D} (hd : Fd n d) (hn : n < 5000) :
    ∃ d', exS st8 (en s0 s1 x4 d ps l (some (true, .list (eI (outs ps l)))) x7 x8 x9 none) = .ok (.next, en s0 s1 x4 d' ps l (some (true, .list (eI (outs ps l)))) x7 x8 x9 none) ∧ Fd (n + 2) d' := by
  have few := g.few
  have lq := (okLeft_iff _ _).mp ok
  obtain ⟨qs, d', e1, g2, hd', hq⟩ := den_moved hd hn ps g
  have hlen : qs.length = ps.length := by
    rcases hq with rfl | ⟨way, by_, rfl⟩
    · rfl
    · rw [List.length_map]
  have e2 := den_outer_points qs l g2 (by rw [hlen]; exact ok) h0
  have e3 : outs qs l = outs ps l := by
    rcases hq with rfl | ⟨way, by_, h⟩
    · rfl
    · exact outs_moved g.nd g2.nd h lq.2.1
  rw [e3] at e2
  refine ⟨d', ?_, hd'⟩
  by_cases h3 : l.length < 3
  · have e4 := outs_few g.nd lq.2.1 (okLeft_nd ok) h3
    rw [e4] at e2 ⊢
    simp [st8, mkFn, exSs, e_var, e_k, e_bin, e_un, e_land, e_lor, e_cmp, e_chain, e_ite, e_tst, e_tup, e_lst, e_sub, e_slc, e_call, e_bi, e_pop, e_isi, x_set, x_setT, x_par, x_put, x_aug, x_ifs, x_expr, x_app, x_raise, x_brk, x_cont, x_pass, x_retv, x_rete, evEs, evFs, evOs, evAs, evO, evT, evTs, evI, opnd, look, looks, slotD, share, ownD, isOwnL, bindT_one, Pv.setE, isMut, argFlags, slotsApart, argsIn, argIn, argsOut, permL, ioOp, outsOf, truthR, bop_addI, bop_subI, bop_pow10, cop, ordD, uop, bi, Pv.plain, Pv.fresh, subD_p0, subD_p1, bindT_eP, isMut_eP, R.ok_bind, itemsOf, io_moved, io_outer_points, e1, e2, shaped_ints, eqv_intsL]
  · have h3' : ¬ ((eI l).length : Int) < 3 := by simp [eI]; omega
    simp [st8, mkFn, exSs, e_var, e_k, e_bin, e_un, e_land, e_lor, e_cmp, e_chain, e_ite, e_tst, e_tup, e_lst, e_sub, e_slc, e_call, e_bi, e_pop, e_isi, x_set, x_setT, x_par, x_put, x_aug, x_ifs, x_expr, x_app, x_raise, x_brk, x_cont, x_pass, x_retv, x_rete, evEs, evFs, evOs, evAs, evO, evT, evTs, evI, opnd, look, looks, slotD, share, ownD, isOwnL, bindT_one, Pv.setE, isMut, argFlags, slotsApart, argsIn, argIn, argsOut, permL, ioOp, outsOf, truthR, bop_addI, bop_subI, bop_pow10, cop, ordD, uop, bi, Pv.plain, Pv.fresh, subD_p0, subD_p1, bindT_eP, isMut_eP, R.ok_bind, itemsOf, io_moved, io_outer_points, e1, e2, shaped_ints, eqv_intsL, h3']
end Lw

end
section
namespace Lw
open PySem hiding Env
open Pv
theorem forL_steps {step : D → Pv.Env → R (Fl × Pv.Env)} {I : Nat → Pv.Env → Prop} {c N : Nat} : ∀ (l : List D) (n : Nat) (r : Pv.Env), (∀ x ∈ l, ∀ n r, n < N → I n r → ∃ r', step x r = .ok (.next, r') ∧ I (n + c) r') → n + c * l.length < N → I n r → ∃ r', forL step l r = .ok (.next, r') ∧ I (n + c * l.length) r'
  | [], n, r, _, _, h => ⟨r, rfl, h⟩
  | x :: l, n, r, hs, hN, h => by
    rw [List.length_cons, Nat.mul_succ] at hN
    obtain ⟨r1, e1, h1⟩ := hs x List.mem_cons_self n r (by omega) h
    obtain ⟨r2, e2, h2⟩ := forL_steps l (n + c) r1 (fun y hy => hs y (List.mem_cons_of_mem _ hy)) (by omega) h1
    refine ⟨r2, ?_, by rw [List.length_cons, Nat.mul_succ, show n + (c * l.length + c) = n + c + c * l.length by omega]; exact h2⟩
    rw [forL, e1]
    exact e2
def rng (n : Nat) : List Int := (List.range n).map fun i : Nat => (i : Int)
theorem rng_ok (n : Nat) : okLeft (rng n) n = true := by
  rw [okLeft_iff]
  unfold rng
  refine ⟨by simp, fun i hi => ?_, ?_⟩
  · obtain ⟨j, hj, rfl⟩ := List.mem_map.mp hi
    have := List.mem_range.mp hj
    omega
  · rw [List.pairwise_map]
    exact List.pairwise_lt_range.imp fun h => by omega
theorem rng_D (n : Nat) : rangeD 0 (n : Int) = eI (rng n) := by
  rw [range0]
  unfold eI rng
  rw [List.map_map]
  rfl
theorem rng_mem {n : Nat} {v : Int} (h1 : 0 ≤ v) (h2 : v < n) : v ∈ rng n := by
  unfold rng
  exact List.mem_map.mpr ⟨v.toNat, List.mem_range.mpr (by omega), by omega⟩
noncomputable def inB : List CS := [.ifs (.val (.cmp .ne (.var 5) (.tup .nil))) [st1, st2, st3, st4, st5, st6, st7, st8] []]
def InJ (s0 s1 x4 : Option (Bool × D)) (ps : List Pt) (n : Nat) (r : Pv.Env) : Prop := ∃ (d : D) (x5 x6 x7 x8 x9 : Option (Bool × D)), r = [s0, s1, some (true, d), some (false, .tuple (ps.map eP)), x4, x5, x6, x7, x8, x9, none] ∧ Fd n d
theorem eqv_nilI (l : List Int) : PyData.eqv (.tuple (eI l)) (.tuple []) = l.isEmpty := by
  rw [eqv_nilT]
  cases l <;> rfl
theorem in_ok {ps : List Pt} {l : List Int} (g : Good ps) (ok : okLeft l ps.length = true) (s0 s1 x4 x6 x7 x8 x9 : Option (Bool × D)) {n : Nat} {d : D} (hd : Fd n d) (hn : n < 5000) :
    ∃ r', exSs inB (en s0 s1 x4 d ps l x6 x7 x8 x9 none) = .ok (.next, r') ∧ InJ s0 s1 x4 ps (n + 2) r' := by
  have few := g.few
  have lq := (okLeft_iff _ _).mp ok
  by_cases h0 : l = []
  · subst h0
    refine ⟨en s0 s1 x4 d ps [] x6 x7 x8 x9 none, ?_, d, _, _, _, _, _, rfl, hd.mono (by omega)⟩
    simp [inB, en, mkFn, exSs, e_var, e_k, e_bin, e_un, e_land, e_lor, e_cmp, e_chain, e_ite, e_tst, e_tup, e_lst, e_sub, e_slc, e_call, e_bi, e_pop, e_isi, x_set, x_setT, x_par, x_put, x_aug, x_ifs, x_expr, x_app, x_raise, x_brk, x_cont, x_pass, x_retv, x_rete, evEs, evFs, evOs, evAs, evO, evT, evTs, evI, opnd, look, looks, slotD, share, ownD, isOwnL, bindT_one, Pv.setE, isMut, argFlags, slotsApart, argsIn, argIn, argsOut, permL, ioOp, outsOf, truthR, bop_addI, bop_subI, bop_pow10, cop, ordD, uop, bi, Pv.plain, Pv.fresh, subD_p0, subD_p1, bindT_eP, isMut_eP, R.ok_bind, itemsOf, shaped_nil, eI, PyData.eqv]
    rfl
  · have sl : (outs ps l).length ≤ l.length := List.length_filter_le _ _
    obtain ⟨d', e8, hd'⟩ := s8_ok g ok h0 s0 s1 x4 (some (true, .list (eI (outs ps l) ++ [.str "spoilt"]))) (some (true, .list ((sortS ps l).map (eS ps)))) (some (true, .list (eI (lessOf ps l)))) hd hn
    refine ⟨en s0 s1 x4 d' ps l (some (true, .list (eI (outs ps l)))) (some (true, .list (eI (outs ps l) ++ [.str "spoilt"]))) (some (true, .list ((sortS ps l).map (eS ps)))) (some (true, .list (eI (lessOf ps l)))) none, ?_, d', _, _, _, _, _, rfl, hd'⟩
    have t : evT (.val (.cmp .ne (.var 5) (.tup .nil))) (en s0 s1 x4 d ps l x6 x7 x8 x9 none) = .ok (true, en s0 s1 x4 d ps l x6 x7 x8 x9 none) := by
      simp [en, mkFn, exSs, e_var, e_k, e_bin, e_un, e_land, e_lor, e_cmp, e_chain, e_ite, e_tst, e_tup, e_lst, e_sub, e_slc, e_call, e_bi, e_pop, e_isi, x_set, x_setT, x_par, x_put, x_aug, x_ifs, x_expr, x_app, x_raise, x_brk, x_cont, x_pass, x_retv, x_rete, evEs, evFs, evOs, evAs, evO, evT, evTs, evI, opnd, look, looks, slotD, share, ownD, isOwnL, bindT_one, Pv.setE, isMut, argFlags, slotsApart, argsIn, argIn, argsOut, permL, ioOp, outsOf, truthR, bop_addI, bop_subI, bop_pow10, cop, ordD, uop, bi, Pv.plain, Pv.fresh, subD_p0, subD_p1, bindT_eP, isMut_eP, R.ok_bind, itemsOf, shaped_ints, shaped_nil, eqv_nilI, h0]
    have body : exSs [st1, st2, st3, st4, st5, st6, st7, st8] (en s0 s1 x4 d ps l x6 x7 x8 x9 none) = .ok (.next, en s0 s1 x4 d' ps l (some (true, .list (eI (outs ps l)))) (some (true, .list (eI (outs ps l) ++ [.str "spoilt"]))) (some (true, .list ((sortS ps l).map (eS ps)))) (some (true, .list (eI (lessOf ps l)))) none) := by
      rw [exSs, s1_ok g ok h0]
      show exSs _ _ = _
      rw [exSs, s2_ok g ok h0]
      show exSs _ _ = _
      rw [exSs, s3_ok _ _ _ _ _ _ _ _ _ (by omega)]
      show exSs _ _ = _
      rw [exSs, s4_ok g ok]
      show exSs _ _ = _
      rw [exSs, s5_ok g ok h0]
      show exSs _ _ = _
      rw [exSs, s6_ok g ok]
      show exSs _ _ = _
      rw [exSs, s7_ok g ok h0]
      show exSs _ _ = _
      rw [exSs, e8]
      rfl
    unfold inB
    rw [exSs, x_ifs, t]
    show ((exSs [st1, st2, st3, st4, st5, st6, st7, st8] (en s0 s1 x4 d ps l x6 x7 x8 x9 none)) >>= _) = _
    rw [body]
    rfl
noncomputable def lefts : CI := .seq (.lst (.cons (.bi .tuple (.cons (.var 4) .nil)) (.cons (.tup (.cons (.call f__law_draw "_law_draw" (.cons (.var 2) (.cons (.bi .len (.cons (.var 4) .nil)) .nil)) []) .nil)) (.cons (.call f__law_some "_law_some" (.cons (.var 2) (.cons (.var 4) (.cons (.k (.int 2)) .nil))) []) (.cons (.bi .tuple (.cons (.slc (.var 4) (.cons (.k (.int 1)) .nil) .nil) .nil)) .nil)))))
theorem lefts_ok {ps : List Pt} (g : Good ps) (s0 s1 x5 x6 x7 x8 x9 : Option (Bool × D)) {n : Nat} {d : D} (hd : Fd n d) (hn : n < 1000) :
    ∃ (ls : List (List Int)) (d' : D), evI lefts [s0, s1, some (true, d), some (false, .tuple (ps.map eP)), some (true, .list (eI (rng ps.length))), x5, x6, x7, x8, x9, none] = .ok (ls.map fun l => .tuple (eI l), [s0, s1, some (true, d'), some (false, .tuple (ps.map eP)), some (false, .list (eI (rng ps.length))), x5, x6, x7, x8, x9, none]) ∧ Fd (n + 11) d' ∧ ls.length = 4 ∧ ∀ l ∈ ls, okLeft l ps.length = true := by
  have few := g.few
  have one := g.one
  have rl : (rng ps.length).length = ps.length := by simp [rng]
  have rlD : (eI (rng ps.length)).length = ps.length := by simp [eI, rng]
  obtain ⟨v, d1, e1, a1, b1, f1⟩ := den_draw hd (by omega) (m := (ps.length : Int)) (by omega) (by omega)
  obtain ⟨zs, d2, e2, hz, f2⟩ := den_some f1 (rng ps.length) (by omega) (by omega)
  have ok := rng_ok ps.length
  refine ⟨[rng ps.length, [v], zs, (rng ps.length).drop 1], d2, ?_, by rw [show n + 11 = n + 1 + 10 by omega]; exact f2, rfl, fun l hl => ?_⟩
  · have c1 : cutD (eI (rng ps.length)) (some 1) none = eI ((rng ps.length).drop 1) := by
      rw [cut_from1]
      simp [eI]
    simp [lefts, mkFn, exSs, e_var, e_k, e_bin, e_un, e_land, e_lor, e_cmp, e_chain, e_ite, e_tst, e_tup, e_lst, e_sub, e_slc, e_call, e_bi, e_pop, e_isi, x_set, x_setT, x_par, x_put, x_aug, x_ifs, x_expr, x_app, x_raise, x_brk, x_cont, x_pass, x_retv, x_rete, evEs, evFs, evOs, evAs, evO, evT, evTs, evI, opnd, look, looks, slotD, share, ownD, isOwnL, bindT_one, Pv.setE, isMut, argFlags, slotsApart, argsIn, argIn, argsOut, permL, ioOp, outsOf, truthR, bop_addI, bop_subI, bop_pow10, cop, ordD, uop, bi, Pv.plain, Pv.fresh, subD_p0, subD_p1, bindT_eP, isMut_eP, R.ok_bind, itemsOf, io_draw, io_some, rlD, e1, e2, slcD, c1]
    rfl
  · simp only [List.mem_cons, List.not_mem_nil, or_false] at hl
    rcases hl with rfl | rfl | rfl | rfl
    · exact ok
    · exact okLeft_sub (List.singleton_sublist.mpr (rng_mem a1 b1)) ok
    · exact okLeft_sub hz ok
    · exact okLeft_sub (List.drop_sublist _ _) ok
noncomputable def outB_ : List CS := [.set 2 (.call f__law_feed "_law_feed" (.cons (.var 0) (.cons (.var 1) .nil)) []),
  .set 3 (.call f__law_points "_law_points" (.cons (.var 2) (.cons (.k (.int 7)) .nil)) []),
  .set 4 (.bi .lrange (.cons (.bi .len (.cons (.var 3) .nil)) .nil)),
  .for_ (.one 5) lefts inB]
def OutJ (ns : List Int) (_ : Nat) (r : Pv.Env) : Prop := ∃ (x1 x2 x3 x4 x5 x6 x7 x8 x9 : Option (Bool × D)), r = [some (false, .list (eI ns)), x1, x2, x3, x4, x5, x6, x7, x8, x9, none]
theorem out_step (ns : List Int) (hl : ns.length ≤ 63) (k : Nat) (hk : k < 1000) (x2 x3 x4 x5 x6 x7 x8 x9 : Option (Bool × D)) :
    ∃ r', exSs outB_ [some (false, .list (eI ns)), some (false, .int (k : Int)), x2, x3, x4, x5, x6, x7, x8, x9, none] = .ok (.next, r') ∧ OutJ ns 0 r' := by
  obtain ⟨d, e1, f1⟩ := den_feed ns k hk hl
  obtain ⟨da, db, dc, hde, _⟩ := f1.ex
  subst hde
  obtain ⟨ps, d2, e2, g, f2⟩ := den_points f1 (by omega)
  have few := g.few
  obtain ⟨ls, d3, e3, f3, h4, hls⟩ := lefts_ok g (some (false, .list (eI ns))) (some (false, .int (k : Int))) x5 x6 x7 x8 x9 f2 (by omega)
  obtain ⟨r', e4, s, x5', x6', x7', x8', x9', hr, _⟩ := forL_steps (step := fun x r => bindT r (.one 5) x >>= fun r1 => exSs inB r1) (I := InJ (some (false, .list (eI ns))) (some (false, .int (k : Int))) (some (false, .list (eI (rng ps.length)))) ps) (c := 2) (N := 4000)
    (ls.map fun l => PyData.tuple (eI l)) (0 + 47 + 11) _ (fun x hx n r hn hr => by
      obtain ⟨l, hl, rfl⟩ := List.mem_map.mp hx
      obtain ⟨d, x5, x6, x7, x8, x9, rfl, hd⟩ := hr
      exact in_ok g (hls l hl) _ _ _ x6 x7 x8 x9 hd (by omega)) (by rw [List.length_map]; omega) ⟨d3, x5, x6, x7, x8, x9, rfl, f3⟩
  have e5 : exS (.for_ (.one 5) lefts inB) [some (false, .list (eI ns)), some (false, .int (k : Int)), some (true, d2), some (false, .tuple (ps.map eP)), some (true, .list (eI (rng ps.length))), x5, x6, x7, x8, x9, none] = .ok (.next, r') := by
    rw [exS, e3]
    exact e4
  refine ⟨r', ?_, ?_⟩
  · have hs : smallI (ps.length : Int) = true := smallI_of ⟨by omega, by omega⟩
    have rD := rng_D ps.length
    have hz : ps.length ≤ SZ := by unfold SZ; omega
    simp [outB_, mkFn, exSs, e_var, e_k, e_bin, e_un, e_land, e_lor, e_cmp, e_chain, e_ite, e_tst, e_tup, e_lst, e_sub, e_slc, e_call, e_bi, e_pop, e_isi, x_set, x_setT, x_par, x_put, x_aug, x_ifs, x_expr, x_app, x_raise, x_brk, x_cont, x_pass, x_retv, x_rete, evEs, evFs, evOs, evAs, evO, evT, evTs, evI, opnd, look, looks, slotD, share, ownD, isOwnL, bindT_one, Pv.setE, isMut, argFlags, slotsApart, argsIn, argIn, argsOut, permL, ioOp, outsOf, truthR, bop_addI, bop_subI, bop_pow10, cop, ordD, uop, bi, Pv.plain, Pv.fresh, subD_p0, subD_p1, bindT_eP, isMut_eP, R.ok_bind, itemsOf, io_feed, io_points, e1, e2, hs, hz, rD, e5]
  · subst hr
    exact ⟨_, _, _, _, _, _, _, _, _, rfl⟩
theorem plain_law (ns : List Int) (h : ns.length ≤ 63) : ∃ fr outs, f_law.den [.list (ns.map .int)] = .ok fr (.bool true) outs := by
  obtain ⟨m, hm, hm2⟩ : ∃ m : Int, (if 1 < (if 4 < (ns.length : Int) then 4 else (ns.length : Int)) then (if 4 < (ns.length : Int) then 4 else (ns.length : Int)) else 1) = m ∧ 0 ≤ m ∧ m ≤ 4 := ⟨_, rfl, by split <;> (try split) <;> omega⟩
  obtain ⟨k, rfl⟩ : ∃ k : Nat, m = k := ⟨m.toNat, by omega⟩
  obtain ⟨r', e4, x1, x2, x3, x4, x5, x6, x7, x8, x9, hr⟩ := forL_steps (step := fun x r => bindT r (.one 1) x >>= fun r1 => exSs outB_ r1) (I := OutJ ns) (c := 0) (N := 1)
    (rangeD 0 (k : Int)) 0 [some (false, .list (eI ns)), none, none, none, none, none, none, none, none, none, none] (fun x hx n r hn hr => by
      rw [range0] at hx
      obtain ⟨i, hi, rfl⟩ := List.mem_map.mp hx
      have := List.mem_range.mp hi
      obtain ⟨x1, x2, x3, x4, x5, x6, x7, x8, x9, rfl⟩ := hr
      exact out_step ns h i (by omega) x2 x3 x4 x5 x6 x7 x8 x9) (by omega) ⟨_, _, _, _, _, _, _, _, _, rfl⟩
  have lenD : (eI ns).length = ns.length := by simp [eI]
  have hs : smallI (k : Int) = true := smallI_of ⟨by omega, by omega⟩
  have e5 : exS (.for_ (.one 1) (.rng (.cons (.bi .max2 (.cons (.k (.int 1)) (.cons (.bi .min2 (.cons (.bi .len (.cons (.var 0) .nil)) (.cons (.k (.int 4)) .nil))) .nil))) .nil)) outB_) [some (false, .list (eI ns)), none, none, none, none, none, none, none, none, none, none] = .ok (.next, r') := by
    have ei : evI (.rng (.cons (.bi .max2 (.cons (.k (.int 1)) (.cons (.bi .min2 (.cons (.bi .len (.cons (.var 0) .nil)) (.cons (.k (.int 4)) .nil))) .nil))) .nil)) [some (false, .list (eI ns)), none, none, none, none, none, none, none, none, none, none] = .ok (rangeD 0 (k : Int), [some (false, .list (eI ns)), none, none, none, none, none, none, none, none, none, none]) := by
      have hlen : (((eI ns).length : Nat) : Int) = (ns.length : Int) := by simp [eI]
      simp [mkFn, exSs, e_var, e_k, e_bin, e_un, e_land, e_lor, e_cmp, e_chain, e_ite, e_tst, e_tup, e_lst, e_sub, e_slc, e_call, e_bi, e_pop, e_isi, x_set, x_setT, x_par, x_put, x_aug, x_ifs, x_expr, x_app, x_raise, x_brk, x_cont, x_pass, x_retv, x_rete, evEs, evFs, evOs, evAs, evO, evT, evTs, evI, opnd, look, looks, slotD, share, ownD, isOwnL, bindT_one, Pv.setE, isMut, argFlags, slotsApart, argsIn, argIn, argsOut, permL, ioOp, outsOf, truthR, bop_addI, bop_subI, bop_pow10, cop, ordD, uop, bi, Pv.plain, Pv.fresh, subD_p0, subD_p1, bindT_eP, isMut_eP, R.ok_bind, itemsOf, hlen, hm, hs]
    rw [exS, ei]
    exact e4
  subst hr
  refine ⟨false, [], ?_⟩
  have e6 : exS (.for_ (.one 1) (.rng (.cons (.bi .max2 (.cons (.k (.int 1)) (.cons (.bi .min2 (.cons (.bi .len (.cons (.var 0) .nil)) (.cons (.k (.int 4)) .nil))) .nil))) .nil)) outB_) [some (false, .list (ns.map .int)), none, none, none, none, none, none, none, none, none, none] = _ := e5
  simp only [outB_, lefts, inB, st1, st2, st3, st4, st5, st6, st7, st8] at e6
  simp [f_law, k_law, mkFn, exSs, e_var, e_k, e_bin, e_un, e_land, e_lor, e_cmp, e_chain, e_ite, e_tst, e_tup, e_lst, e_sub, e_slc, e_call, e_bi, e_pop, e_isi, x_set, x_setT, x_par, x_put, x_aug, x_ifs, x_expr, x_app, x_raise, x_brk, x_cont, x_pass, x_retv, x_rete, evEs, evFs, evOs, evAs, evO, evT, evTs, evI, opnd, look, looks, slotD, share, ownD, isOwnL, bindT_one, Pv.setE, isMut, argFlags, slotsApart, argsIn, argIn, argsOut, permL, ioOp, outsOf, truthR, bop_addI, bop_subI, bop_pow10, cop, ordD, uop, bi, Pv.plain, Pv.fresh, subD_p0, subD_p1, bindT_eP, isMut_eP, R.ok_bind, itemsOf, e6]
end Lw

end
section
namespace Lw
open PySem PySem.Spec PyProof.Rows L2 Pv
theorem all_mk {l : PySem.W.OpenLaw} {w : World} {K : PySem.W.Frag} {h : Heap} {mg : Str → Option Value} {fa : Addr} (X : K.In h) (G : h.Ns mainGlobals mg) (hfa : mg "law" = some (.ref fa))
    {f0 f1 f2 f3 f4 f5 f6 f7 f8 f9 f10 f11 f12 f13 f14 f15 f16 f17 f18 f19 f20 f21 f22 : Addr} {od0 an0 od1 an1 od2 an2 od3 an3 od4 an4 od5 an5 od6 an6 od7 an7 od8 an8 od9 an9 od10 an10 od11 an11 od12 an12 od13 an13 od14 an14 od15 an15 od16 an16 od17 an17 od18 an18 od19 an19 od20 an20 od21 an21 od22 an22 : Option Addr} {sl0 sl1 sl2 sl3 sl4 sl5 sl6 sl7 sl8 sl9 sl10 sl11 sl12 sl13 sl14 sl15 sl16 sl17 sl18 sl19 sl20 sl21 sl22 : Array (Option Value)} {oc0 kV0 dc0 pm0 cd0 ct0 oc1 kV1 dc1 pm1 cd1 ct1 oc2 kV2 dc2 pm2 cd2 ct2 oc3 kV3 dc3 pm3 cd3 ct3 oc4 kV4 dc4 pm4 cd4 ct4 oc5 kV5 dc5 pm5 cd5 ct5 oc6 kV6 dc6 pm6 cd6 ct6 oc7 kV7 dc7 pm7 cd7 ct7 oc8 kV8 dc8 pm8 cd8 ct8 oc9 kV9 dc9 pm9 cd9 ct9 oc10 kV10 dc10 pm10 cd10 ct10 oc11 kV11 dc11 pm11 cd11 ct11 oc12 kV12 dc12 pm12 cd12 ct12 oc13 kV13 dc13 pm13 cd13 ct13 oc14 kV14 dc14 pm14 cd14 ct14 oc15 kV15 dc15 pm15 cd15 ct15 oc16 kV16 dc16 pm16 cd16 ct16 oc17 kV17 dc17 pm17 cd17 ct17 oc18 kV18 dc18 pm18 cd18 ct18 oc19 kV19 dc19 pm19 cd19 ct19 oc20 kV20 dc20 pm20 cd20 ct20 oc21 kV21 dc21 pm21 cd21 ct21 oc22 kV22 dc22 pm22 cd22 ct22 : Value}
    (a0 : PySem.W.nsIn K mainGlobals "is_integer" = some (some (.ref f0))) (l0 : K.lookup f0 = some ⟨oc0, od0, .func (PySem.W.fnOf "is_integer" "is_integer" (C8.fnArgs (topS 5)) (C8.fnBody (topS 5)) (C8.fnScope (topS 5)) .none kV0 dc0 pm0 an0 cd0 ct0), sl0⟩) (c0 : PySem.W.codeIn K cd0 "is_integer" = true) (k0 : PySem.W.keepIn K (.ref f0) = true)
    (a1 : PySem.W.nsIn K mainGlobals "is_row" = some (some (.ref f1))) (l1 : K.lookup f1 = some ⟨oc1, od1, .func (PySem.W.fnOf "is_row" "is_row" (C8.fnArgs (topS 7)) (C8.fnBody (topS 7)) (C8.fnScope (topS 7)) .none kV1 dc1 pm1 an1 cd1 ct1), sl1⟩) (c1 : PySem.W.codeIn K cd1 "is_row" = true) (k1 : PySem.W.keepIn K (.ref f1) = true)
    (a2 : PySem.W.nsIn K mainGlobals "is_ascending" = some (some (.ref f2))) (l2 : K.lookup f2 = some ⟨oc2, od2, .func (PySem.W.fnOf "is_ascending" "is_ascending" (C8.fnArgs (topS 8)) (C8.fnBody (topS 8)) (C8.fnScope (topS 8)) .none kV2 dc2 pm2 an2 cd2 ct2), sl2⟩) (c2 : PySem.W.codeIn K cd2 "is_ascending" = true) (k2 : PySem.W.keepIn K (.ref f2) = true)
    (a3 : PySem.W.nsIn K mainGlobals "is_on_side" = some (some (.ref f3))) (l3 : K.lookup f3 = some ⟨oc3, od3, .func (PySem.W.fnOf "is_on_side" "is_on_side" (C8.fnArgs (topS 13)) (C8.fnBody (topS 13)) (C8.fnScope (topS 13)) .none kV3 dc3 pm3 an3 cd3 ct3), sl3⟩) (c3 : PySem.W.codeIn K cd3 "is_on_side" = true) (k3 : PySem.W.keepIn K (.ref f3) = true)
    (a4 : PySem.W.nsIn K mainGlobals "_law_feed" = some (some (.ref f4))) (l4 : K.lookup f4 = some ⟨oc4, od4, .func (PySem.W.fnOf "_law_feed" "_law_feed" (C8.fnArgs (topS 25)) (C8.fnBody (topS 25)) (C8.fnScope (topS 25)) .none kV4 dc4 pm4 an4 cd4 ct4), sl4⟩) (c4 : PySem.W.codeIn K cd4 "_law_feed" = true) (k4 : PySem.W.keepIn K (.ref f4) = true)
    (a5 : PySem.W.nsIn K mainGlobals "_law_draw" = some (some (.ref f5))) (l5 : K.lookup f5 = some ⟨oc5, od5, .func (PySem.W.fnOf "_law_draw" "_law_draw" (C8.fnArgs (topS 26)) (C8.fnBody (topS 26)) (C8.fnScope (topS 26)) .none kV5 dc5 pm5 an5 cd5 ct5), sl5⟩) (c5 : PySem.W.codeIn K cd5 "_law_draw" = true) (k5 : PySem.W.keepIn K (.ref f5) = true)
    (a6 : PySem.W.nsIn K mainGlobals "_law_point_sides" = some (some (.ref f6))) (l6 : K.lookup f6 = some ⟨oc6, od6, .func (PySem.W.fnOf "_law_point_sides" "_law_point_sides" (C8.fnArgs (topS 29)) (C8.fnBody (topS 29)) (C8.fnScope (topS 29)) .none kV6 dc6 pm6 an6 cd6 ct6), sl6⟩) (c6 : PySem.W.codeIn K cd6 "_law_point_sides" = true) (k6 : PySem.W.keepIn K (.ref f6) = true)
    (a7 : PySem.W.nsIn K mainGlobals "is_within" = some (some (.ref f7))) (l7 : K.lookup f7 = some ⟨oc7, od7, .func (PySem.W.fnOf "is_within" "is_within" (C8.fnArgs (topS 6)) (C8.fnBody (topS 6)) (C8.fnScope (topS 6)) .none kV7 dc7 pm7 an7 cd7 ct7), sl7⟩) (c7 : PySem.W.codeIn K cd7 "is_within" = true) (k7 : PySem.W.keepIn K (.ref f7) = true)
    (a8 : PySem.W.nsIn K mainGlobals "is_outer" = some (some (.ref f8))) (l8 : K.lookup f8 = some ⟨oc8, od8, .func (PySem.W.fnOf "is_outer" "is_outer" (C8.fnArgs (topS 14)) (C8.fnBody (topS 14)) (C8.fnScope (topS 14)) .none kV8 dc8 pm8 an8 cd8 ct8), sl8⟩) (c8 : PySem.W.codeIn K cd8 "is_outer" = true) (k8 : PySem.W.keepIn K (.ref f8) = true)
    (a9 : PySem.W.nsIn K mainGlobals "_law_one" = some (some (.ref f9))) (l9 : K.lookup f9 = some ⟨oc9, od9, .func (PySem.W.fnOf "_law_one" "_law_one" (C8.fnArgs (topS 27)) (C8.fnBody (topS 27)) (C8.fnScope (topS 27)) .none kV9 dc9 pm9 an9 cd9 ct9), sl9⟩) (c9 : PySem.W.codeIn K cd9 "_law_one" = true) (k9 : PySem.W.keepIn K (.ref f9) = true)
    (a10 : PySem.W.nsIn K mainGlobals "_law_some" = some (some (.ref f10))) (l10 : K.lookup f10 = some ⟨oc10, od10, .func (PySem.W.fnOf "_law_some" "_law_some" (C8.fnArgs (topS 28)) (C8.fnBody (topS 28)) (C8.fnScope (topS 28)) .none kV10 dc10 pm10 an10 cd10 ct10), sl10⟩) (c10 : PySem.W.codeIn K cd10 "_law_some" = true) (k10 : PySem.W.keepIn K (.ref f10) = true)
    (a11 : PySem.W.nsIn K mainGlobals "_law_is_outer" = some (some (.ref f11))) (l11 : K.lookup f11 = some ⟨oc11, od11, .func (PySem.W.fnOf "_law_is_outer" "_law_is_outer" (C8.fnArgs (topS 30)) (C8.fnBody (topS 30)) (C8.fnScope (topS 30)) .none kV11 dc11 pm11 an11 cd11 ct11), sl11⟩) (c11 : PySem.W.codeIn K cd11 "_law_is_outer" = true) (k11 : PySem.W.keepIn K (.ref f11) = true)
    (a12 : PySem.W.nsIn K mainGlobals "_law_moved" = some (some (.ref f12))) (l12 : K.lookup f12 = some ⟨oc12, od12, .func (PySem.W.fnOf "_law_moved" "_law_moved" (C8.fnArgs (topS 33)) (C8.fnBody (topS 33)) (C8.fnScope (topS 33)) .none kV12 dc12 pm12 an12 cd12 ct12), sl12⟩) (c12 : PySem.W.codeIn K cd12 "_law_moved" = true) (k12 : PySem.W.keepIn K (.ref f12) = true)
    (a13 : PySem.W.nsIn K mainGlobals "is_deed" = some (some (.ref f13))) (l13 : K.lookup f13 = some ⟨oc13, od13, .func (PySem.W.fnOf "is_deed" "is_deed" (C8.fnArgs (topS 10)) (C8.fnBody (topS 10)) (C8.fnScope (topS 10)) .none kV13 dc13 pm13 an13 cd13 ct13), sl13⟩) (c13 : PySem.W.codeIn K cd13 "is_deed" = true) (k13 : PySem.W.keepIn K (.ref f13) = true)
    (a14 : PySem.W.nsIn K mainGlobals "outer_of" = some (some (.ref f14))) (l14 : K.lookup f14 = some ⟨oc14, od14, .func (PySem.W.fnOf "outer_of" "outer_of" (C8.fnArgs (topS 15)) (C8.fnBody (topS 15)) (C8.fnScope (topS 15)) .none kV14 dc14 pm14 an14 cd14 ct14), sl14⟩) (c14 : PySem.W.codeIn K cd14 "outer_of" = true) (k14 : PySem.W.keepIn K (.ref f14) = true)
    (a15 : PySem.W.nsIn K mainGlobals "is_point" = some (some (.ref f15))) (l15 : K.lookup f15 = some ⟨oc15, od15, .func (PySem.W.fnOf "is_point" "is_point" (C8.fnArgs (topS 19)) (C8.fnBody (topS 19)) (C8.fnScope (topS 19)) .none kV15 dc15 pm15 an15 cd15 ct15), sl15⟩) (c15 : PySem.W.codeIn K cd15 "is_point" = true) (k15 : PySem.W.keepIn K (.ref f15) = true)
    (a16 : PySem.W.nsIn K mainGlobals "_law_outer" = some (some (.ref f16))) (l16 : K.lookup f16 = some ⟨oc16, od16, .func (PySem.W.fnOf "_law_outer" "_law_outer" (C8.fnArgs (topS 31)) (C8.fnBody (topS 31)) (C8.fnScope (topS 31)) .none kV16 dc16 pm16 an16 cd16 ct16), sl16⟩) (c16 : PySem.W.codeIn K cd16 "_law_outer" = true) (k16 : PySem.W.keepIn K (.ref f16) = true)
    (a17 : PySem.W.nsIn K mainGlobals "_law_points" = some (some (.ref f17))) (l17 : K.lookup f17 = some ⟨oc17, od17, .func (PySem.W.fnOf "_law_points" "_law_points" (C8.fnArgs (topS 32)) (C8.fnBody (topS 32)) (C8.fnScope (topS 32)) .none kV17 dc17 pm17 an17 cd17 ct17), sl17⟩) (c17 : PySem.W.codeIn K cd17 "_law_points" = true) (k17 : PySem.W.keepIn K (.ref f17) = true)
    (a18 : PySem.W.nsIn K mainGlobals "is_deeds" = some (some (.ref f18))) (l18 : K.lookup f18 = some ⟨oc18, od18, .func (PySem.W.fnOf "is_deeds" "is_deeds" (C8.fnArgs (topS 11)) (C8.fnBody (topS 11)) (C8.fnScope (topS 11)) .none kV18 dc18 pm18 an18 cd18 ct18), sl18⟩) (c18 : PySem.W.codeIn K cd18 "is_deeds" = true) (k18 : PySem.W.keepIn K (.ref f18) = true)
    (a19 : PySem.W.nsIn K mainGlobals "need_points" = some (some (.ref f19))) (l19 : K.lookup f19 = some ⟨oc19, od19, .func (PySem.W.fnOf "need_points" "need_points" (C8.fnArgs (topS 20)) (C8.fnBody (topS 20)) (C8.fnScope (topS 20)) .none kV19 dc19 pm19 an19 cd19 ct19), sl19⟩) (c19 : PySem.W.codeIn K cd19 "need_points" = true) (k19 : PySem.W.keepIn K (.ref f19) = true)
    (a20 : PySem.W.nsIn K mainGlobals "need_left" = some (some (.ref f20))) (l20 : K.lookup f20 = some ⟨oc20, od20, .func (PySem.W.fnOf "need_left" "need_left" (C8.fnArgs (topS 21)) (C8.fnBody (topS 21)) (C8.fnScope (topS 21)) .none kV20 dc20 pm20 an20 cd20 ct20), sl20⟩) (c20 : PySem.W.codeIn K cd20 "need_left" = true) (k20 : PySem.W.keepIn K (.ref f20) = true)
    (a21 : PySem.W.nsIn K mainGlobals "outer_points" = some (some (.ref f21))) (l21 : K.lookup f21 = some ⟨oc21, od21, .func (PySem.W.fnOf "outer_points" "outer_points" (C8.fnArgs (topS 23)) (C8.fnBody (topS 23)) (C8.fnScope (topS 23)) .none kV21 dc21 pm21 an21 cd21 ct21), sl21⟩) (c21 : PySem.W.codeIn K cd21 "outer_points" = true) (k21 : PySem.W.keepIn K (.ref f21) = true)
    (a22 : PySem.W.nsIn K mainGlobals "law" = some (some (.ref f22))) (l22 : K.lookup f22 = some ⟨oc22, od22, .func (PySem.W.fnOf "law" "law" (C8.fnArgs (topS 34)) (C8.fnBody (topS 34)) (C8.fnScope (topS 34)) .none kV22 dc22 pm22 an22 cd22 ct22), sl22⟩) (c22 : PySem.W.codeIn K cd22 "law" = true) (k22 : PySem.W.keepIn K (.ref f22) = true)
    (z_abs : PySem.W.nsIn K mainGlobals "abs" = some none)
    (z_all : PySem.W.nsIn K mainGlobals "all" = some none)
    (z_any : PySem.W.nsIn K mainGlobals "any" = some none)
    (z_bool : PySem.W.nsIn K mainGlobals "bool" = some none)
    (z_enumerate : PySem.W.nsIn K mainGlobals "enumerate" = some none)
    (z_int : PySem.W.nsIn K mainGlobals "int" = some none)
    (z_isinstance : PySem.W.nsIn K mainGlobals "isinstance" = some none)
    (z_len : PySem.W.nsIn K mainGlobals "len" = some none)
    (z_list : PySem.W.nsIn K mainGlobals "list" = some none)
    (z_max : PySem.W.nsIn K mainGlobals "max" = some none)
    (z_min : PySem.W.nsIn K mainGlobals "min" = some none)
    (z_range : PySem.W.nsIn K mainGlobals "range" = some none)
    (z_repr : PySem.W.nsIn K mainGlobals "repr" = some none)
    (z_set : PySem.W.nsIn K mainGlobals "set" = some none)
    (z_sorted : PySem.W.nsIn K mainGlobals "sorted" = some none)
    (z_sum : PySem.W.nsIn K mainGlobals "sum" = some none)
    (z_tuple : PySem.W.nsIn K mainGlobals "tuple" = some none)
    (z_zip : PySem.W.nsIn K mainGlobals "zip" = some none)
    {t_FAR t_MOST_POINTS : Tok}
    (g_FAR : PySem.W.nsIn K mainGlobals "FAR" = some (some (.int 1000 t_FAR)))
    (g_MOST_POINTS : PySem.W.nsIn K mainGlobals "MOST_POINTS" = some (some (.int 7 t_MOST_POINTS)))
    (it_bool : isTab K "bool" = true)
    (it_int : isTab K "int" = true)
    (it_list : isTab K "list" = true)
    (it_tuple : isTab K "tuple" = true)
    : ∃ fd : FuncData, (∀ (s : Shared) (u : Value), BindsTo s fd ⟨[u], []⟩ [("script", u)]) ∧ ∀ base : Heap, K.In base → base.Ns mainGlobals mg → FnG l.prog w K mg base 7 fa fd ["script"] f_law := by
  have e := hfa.symm.trans (PySem.W.mg_of X G a22)
  cases e
  refine ⟨PySem.W.fnOf "law" "law" (C8.fnArgs (topS 34)) (C8.fnBody (topS 34)) (C8.fnScope (topS 34)) .none kV22 dc22 pm22 an22 cd22 ct22, fun s u => .of_eq rfl, fun base _ _ => ?_⟩
  obtain ⟨f, fd, F, h1, _, _, oc, od, osl, h2⟩ := (all_ok (P := l.prog) (w := w) (base := base) (DefG.mk' X G a0 l0 c0 k0) (DefG.mk' X G a1 l1 c1 k1) (DefG.mk' X G a2 l2 c2 k2) (DefG.mk' X G a3 l3 c3 k3) (DefG.mk' X G a4 l4 c4 k4) (DefG.mk' X G a5 l5 c5 k5) (DefG.mk' X G a6 l6 c6 k6) (DefG.mk' X G a7 l7 c7 k7) (DefG.mk' X G a8 l8 c8 k8) (DefG.mk' X G a9 l9 c9 k9) (DefG.mk' X G a10 l10 c10 k10) (DefG.mk' X G a11 l11 c11 k11) (DefG.mk' X G a12 l12 c12 k12) (DefG.mk' X G a13 l13 c13 k13) (DefG.mk' X G a14 l14 c14 k14) (DefG.mk' X G a15 l15 c15 k15) (DefG.mk' X G a16 l16 c16 k16) (DefG.mk' X G a17 l17 c17 k17) (DefG.mk' X G a18 l18 c18 k18) (DefG.mk' X G a19 l19 c19 k19) (DefG.mk' X G a20 l20 c20 k20) (DefG.mk' X G a21 l21 c21 k21) (DefG.mk' X G a22 l22 c22 k22) (PySem.W.mg_none_of X G z_abs) (PySem.W.mg_none_of X G z_all) (PySem.W.mg_none_of X G z_any) (PySem.W.mg_none_of X G z_bool) (PySem.W.mg_none_of X G z_enumerate) (PySem.W.mg_none_of X G z_int) (PySem.W.mg_none_of X G z_isinstance) (PySem.W.mg_none_of X G z_len) (PySem.W.mg_none_of X G z_list) (PySem.W.mg_none_of X G z_max) (PySem.W.mg_none_of X G z_min) (PySem.W.mg_none_of X G z_range) (PySem.W.mg_none_of X G z_repr) (PySem.W.mg_none_of X G z_set) (PySem.W.mg_none_of X G z_sorted) (PySem.W.mg_none_of X G z_sum) (PySem.W.mg_none_of X G z_tuple) (PySem.W.mg_none_of X G z_zip) ⟨_, PySem.W.mg_of X G g_FAR⟩ ⟨_, PySem.W.mg_of X G g_MOST_POINTS⟩ it_bool it_int it_list it_tuple).ex
  rw [hfa] at h1
  cases h1
  rw [l22] at h2
  cases h2
  exact F
end Lw
namespace Lw
end Lw

open PySem PySem.W PyProof.Rows
set_option maxHeartbeats 0 in
theorem PySem.Challenge.cw_opendeeds_k54_outer_points_holds : PySem.Challenge.rw_opendeeds_k54_outer_points.Holds := by
  w_on; o_law; k_head; (case hw => w_witness2)
  k_fill
  refine Pv.walk_ofG (l := PySem.Challenge.rw_opendeeds_k54_outer_points) (n := 63) (k := 7) (x := "script") (fn := Lw.f_law) rfl (by decide) rfl ⟨rfl, by decide, by decide⟩ (fun w h Y => PySem.W.kIn_of Y) (fun P => by kernel_rfl) ?F rfl Lw.plain_law
  case F =>
    intro w mg fa h KX G hmg
    refine' Lw.all_mk KX G hmg ?a0 ?l0 ?c0 ?k0 ?a1 ?l1 ?c1 ?k1 ?a2 ?l2 ?c2 ?k2 ?a3 ?l3 ?c3 ?k3 ?a4 ?l4 ?c4 ?k4 ?a5 ?l5 ?c5 ?k5 ?a6 ?l6 ?c6 ?k6 ?a7 ?l7 ?c7 ?k7 ?a8 ?l8 ?c8 ?k8 ?a9 ?l9 ?c9 ?k9 ?a10 ?l10 ?c10 ?k10 ?a11 ?l11 ?c11 ?k11 ?a12 ?l12 ?c12 ?k12 ?a13 ?l13 ?c13 ?k13 ?a14 ?l14 ?c14 ?k14 ?a15 ?l15 ?c15 ?k15 ?a16 ?l16 ?c16 ?k16 ?a17 ?l17 ?c17 ?k17 ?a18 ?l18 ?c18 ?k18 ?a19 ?l19 ?c19 ?k19 ?a20 ?l20 ?c20 ?k20 ?a21 ?l21 ?c21 ?k21 ?a22 ?l22 ?c22 ?k22 ?z_abs ?z_all ?z_any ?z_bool ?z_enumerate ?z_int ?z_isinstance ?z_len ?z_list ?z_max ?z_min ?z_range ?z_repr ?z_set ?z_sorted ?z_sum ?z_tuple ?z_zip ?g_FAR ?g_MOST_POINTS (by kernel_rfl) (by kernel_rfl) (by kernel_rfl) (by kernel_rfl)
    (case a0 => k_is); (case l0 => k_is); (case c0 => k_is); (case k0 => k_is); (case a1 => k_is); (case l1 => k_is); (case c1 => k_is); (case k1 => k_is); (case a2 => k_is); (case l2 => k_is); (case c2 => k_is); (case k2 => k_is); (case a3 => k_is); (case l3 => k_is); (case c3 => k_is); (case k3 => k_is); (case a4 => k_is); (case l4 => k_is); (case c4 => k_is); (case k4 => k_is); (case a5 => k_is); (case l5 => k_is); (case c5 => k_is); (case k5 => k_is); (case a6 => k_is); (case l6 => k_is); (case c6 => k_is); (case k6 => k_is); (case a7 => k_is); (case l7 => k_is); (case c7 => k_is); (case k7 => k_is); (case a8 => k_is); (case l8 => k_is); (case c8 => k_is); (case k8 => k_is); (case a9 => k_is); (case l9 => k_is); (case c9 => k_is); (case k9 => k_is); (case a10 => k_is); (case l10 => k_is); (case c10 => k_is); (case k10 => k_is); (case a11 => k_is); (case l11 => k_is); (case c11 => k_is); (case k11 => k_is); (case a12 => k_is); (case l12 => k_is); (case c12 => k_is); (case k12 => k_is); (case a13 => k_is); (case l13 => k_is); (case c13 => k_is); (case k13 => k_is); (case a14 => k_is); (case l14 => k_is); (case c14 => k_is); (case k14 => k_is); (case a15 => k_is); (case l15 => k_is); (case c15 => k_is); (case k15 => k_is); (case a16 => k_is); (case l16 => k_is); (case c16 => k_is); (case k16 => k_is); (case a17 => k_is); (case l17 => k_is); (case c17 => k_is); (case k17 => k_is); (case a18 => k_is); (case l18 => k_is); (case c18 => k_is); (case k18 => k_is); (case a19 => k_is); (case l19 => k_is); (case c19 => k_is); (case k19 => k_is); (case a20 => k_is); (case l20 => k_is); (case c20 => k_is); (case k20 => k_is); (case a21 => k_is); (case l21 => k_is); (case c21 => k_is); (case k21 => k_is); (case a22 => k_is); (case l22 => k_is); (case c22 => k_is); (case k22 => k_is); (case z_abs => k_is); (case z_all => k_is); (case z_any => k_is); (case z_bool => k_is); (case z_enumerate => k_is); (case z_int => k_is); (case z_isinstance => k_is); (case z_len => k_is); (case z_list => k_is); (case z_max => k_is); (case z_min => k_is); (case z_range => k_is); (case z_repr => k_is); (case z_set => k_is); (case z_sorted => k_is); (case z_sum => k_is); (case z_tuple => k_is); (case z_zip => k_is); (case g_FAR => k_is); (case g_MOST_POINTS => k_is)

end
