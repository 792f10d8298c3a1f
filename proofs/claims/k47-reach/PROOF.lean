import PyProof.Rows.All
import Wide.All
import OpenK.AllK
import Wide.FinOn
import HandS.ForMost
import HandS.Deep
import HandS.ForExc
import HandS.TupAny
import HandS.Dict
import HandS.Style
import HandS.TupMul
import HandS.SortOrd
import HandS.SortInts
import HandS.SortRule
import PyProof.EqKinds
import HandS.Conv
import HandS.More
import KE.KDictSum
import HandS.TupLen
import HandS.ExcField
import HandS.ExcOwn
import HandS.CallSlots
import HandS.Property
import HandS.WordsExc
import HandS.TupSets
import HandS.TryOnly
import KE.GoesEnum
import HandS.Strs
import HandS.IsInst
import HandS.Flt
import HandS.ExcValue
import HandS.ExcIs
import KE.KExcIs
import HandS.CallLocal
import HandS.Iter
import KE.KDictDisplayH
import KE.KDictCopyH
import HandS.DictComp
import HandS.TryMany
import HandS.Words
import HandS.Ends
import HandS.ExcInit
import KE.KExcSuper
import PySem.Challenge.RW_starward_k47_what_commands_reach
import KE.RegKSuper
set_option Elab.async false
set_option linter.all false
set_option maxRecDepth 100000
/-! M, part A: plain data, results, the small language and what it evaluates to. -/
namespace M
open PySem L2

/-- plain data: what a value stands for -/
inductive D where
  | non | bl (b : Bool) | int (i : Int) | str (s : Str)
  | tup (l : List D) | lst (l : List D)
  | dic (t : Bool) (ks vs : List D)
  | scr (l : List D)
  | obj (c : Str) (ns : List Str) (vs : List D)
  | exv (c f : Str) (vs : List D)
  | fn (n : Str)
  deriving Inhabited

/-- a result: a value, an own exception (its class, its one field), or nothing that is told -/
inductive R (α : Type) where
  | ok (a : α) | err (c : Str) (p : Option (Str × D)) | bad

namespace R
@[inline] def bind {α β : Type} (x : R α) (f : α → R β) : R β := match x with
  | .ok a => f a
  | .err c p => .err c p
  | .bad => .bad
instance : Monad R where
  pure := R.ok
  bind := R.bind
@[simp] theorem bind_ok {α β : Type} (a : α) (f : α → R β) : (R.ok a >>= f) = f a := rfl
@[simp] theorem bind_err {α β : Type} (c : Str) (p : Option (Str × D)) (f : α → R β) : ((R.err c p : R α) >>= f) = .err c p := rfl
@[simp] theorem bind_bad {α β : Type} (f : α → R β) : ((R.bad : R α) >>= f) = .bad := rfl
@[simp] theorem pure_ok {α : Type} (a : α) : (pure a : R α) = .ok a := rfl
def of {α : Type} : Option α → R α
  | some a => .ok a
  | none => .bad
@[simp] theorem of_some {α : Type} (a : α) : R.of (some a) = .ok a := rfl
@[simp] theorem of_none {α : Type} : (R.of (none : Option α)) = .bad := rfl
/-- a thing that must hold -/
def need (b : Bool) : R Unit := if b then .ok () else .bad
end R

abbrev LIM : Nat := 16777216

/-! ### equality of data -/
mutual
def beq : D → D → Bool
  | .non, .non => true
  | .bl a, .bl b => a == b
  | .bl a, .int j => (if a then 1 else 0) == j
  | .int i, .bl b => i == (if b then 1 else 0)
  | .int i, .int j => i == j
  | .str x, .str y => x == y
  | .lst xs, .lst ys => beqs xs ys
  | .tup xs, .tup ys => beqs xs ys
  | _, _ => false
def beqs : List D → List D → Bool
  | [], [] => true
  | x :: xs, y :: ys => beq x y && beqs xs ys
  | _, _ => false
end
/-! == is told of such data, to that depth -/
mutual
def good : Nat → D → Bool
  | _, .non => true
  | _, .bl _ => true
  | _, .int _ => true
  | _, .str s => PyData.canLay0 (.str s)
  | n + 1, .tup l => goods n l
  | n + 1, .lst l => goods n l
  | _, _ => false
def goods : Nat → List D → Bool
  | _, [] => true
  | n, x :: xs => good n x && goods n xs
end
def eqD (a b : D) : R Bool := if good 60 a && good 60 b then .ok (beq a b) else .bad
def inD (a : D) (l : List D) : R Bool := if good 60 a && goods 60 l then .ok (l.any fun z => beq z a) else .bad

/-! ### dicts: keys ints and texts, or tuples of these -/
def keyOk : Bool → D → Bool
  | false, .int _ => true
  | false, .str _ => true
  | true, .tup l => l.all (keyOk0)
  | _, _ => false
where keyOk0 : D → Bool
  | .int _ => true
  | .str _ => true
  | _ => false
def memK (ks : List D) (k : D) : Bool := ks.any fun z => beq z k
def dlook : List D → List D → D → Option D
  | k :: ks, v :: vs, x => if beq k x = true then some v else dlook ks vs x
  | _, _, _ => none
def dset : List D → List D → D → D → List D
  | k :: ks, v :: vs, x, y => (if beq k x = true then y else v) :: dset ks vs x y
  | _, _, _, _ => []
/-- without a key -/
def dropD : List D → List D → D → List D × List D
  | k :: ks, v :: vs, x => if beq k x = true then dropD ks vs x else (k :: (dropD ks vs x).1, v :: (dropD ks vs x).2)
  | _, _, _ => ([], [])
def dputD (t : Bool) (ks vs : List D) (k v : D) : R D :=
  if keyOk t k = true ∧ ks.length < LIM then .ok (if memK ks k = true then .dic t ks (dset ks vs k v) else .dic t (ks ++ [k]) (vs ++ [v])) else .bad

/-! ### operators -/
inductive BOp | add | sub | mul | fdiv | mod | pow
  deriving DecidableEq
inductive COp | eq | ne | lt | le | gt | ge | isin | notin | isnt
  deriving DecidableEq
def mulOk (i j : Int) : Bool := (decide (-(2 ^ 64) < i) && decide (i < 2 ^ 64)) || (decide (-(2 ^ 64) < j) && decide (j < 2 ^ 64))
def binD : BOp → D → D → R D
  | .add, .int a, .int b => .ok (.int (a + b))
  | .sub, .int a, .int b => .ok (.int (a - b))
  | .mul, .int a, .int b => if mulOk a b then .ok (.int (a * b)) else .bad
  | .fdiv, .int a, .int b => if 0 < b ∧ b < 1073741824 then .ok (.int (a / b)) else .bad
  | .mod, .int a, .int b => if 0 < b then .ok (.int (a % b)) else .bad
  | .pow, .int a, .int b => if 0 ≤ b ∧ b ≤ 1000 ∧ a.natAbs < 1024 then .ok (.int (a ^ b.toNat)) else .bad
  | .add, .lst a, .lst b => if a.length + b.length ≤ LIM then .ok (.lst (a ++ b)) else .bad
  | .add, .tup a, .tup b => if a.length + b.length ≤ LIM then .ok (.tup (a ++ b)) else .bad
  | .add, .str a, .str b => if a.length + b.length ≤ LIM then .ok (.str (a ++ b)) else .bad
  | .mul, .lst a, .int k => if a.length * k.toNat ≤ LIM ∧ k < 1000000 ∧ -1000000 < k then .ok (.lst (List.replicate k.toNat a).flatten) else .bad
  | .mul, .tup a, .int k => if 0 < a.length ∧ a.length ≤ 1000 ∧ 2 ≤ k ∧ k ≤ 1000 then .ok (.tup (List.replicate k.toNat a).flatten) else .bad
  | _, _, _ => .bad
def cmpD : COp → D → D → R Bool
  | .eq, a, b => eqD a b
  | .ne, a, b => (eqD a b).bind fun c => .ok (!c)
  | .lt, .int a, .int b => .ok (decide (a < b))
  | .le, .int a, .int b => .ok (decide (a ≤ b))
  | .gt, .int a, .int b => .ok (decide (b < a))
  | .ge, .int a, .int b => .ok (decide (b ≤ a))
  | .isin, a, .lst l => inD a l
  | .notin, a, .lst l => (inD a l).bind fun c => .ok (!c)
  | .isin, a, .tup l => inD a l
  | .notin, a, .tup l => (inD a l).bind fun c => .ok (!c)
  | .isin, a, .dic t ks _ => if keyOk t a = true then .ok (memK ks a) else .bad
  | .notin, a, .dic t ks _ => if keyOk t a = true then .ok (!memK ks a) else .bad
  | .isnt, .bl a, .bl b => .ok (!decide (a = b))
  | _, _, _ => .bad
def isNon : D → Bool
  | .non => true
  | _ => false
def tru : D → R Bool
  | .non => .ok false
  | .bl b => .ok b
  | .int i => .ok (i != 0)
  | .str s => if s.length ≤ LIM then .ok ((s.length : Int) != 0) else .bad
  | .lst l => .ok (!l.isEmpty)
  | .tup l => .ok (!l.isEmpty)
  | _ => .bad
def idxD : D → D → R D
  | .lst l, .int i => R.of (atI l i)
  | .scr l, .int i => R.of (atI l i)
  | .tup l, .int i => R.of (atI l i)
  | .dic t ks vs, k => if keyOk t k = true then R.of (dlook ks vs k) else .bad
  | _, _ => .bad
/-- the items of a slice -/
def cut {α : Type} (xs : List α) (lo hi : Option Int) : List α := (xs.drop (HT.sIx xs.length 0 lo)).take (HT.sIx xs.length xs.length hi - HT.sIx xs.length 0 lo)
def sliceD : D → Option Int → Option Int → R D
  | .lst l, lo, hi => .ok (.lst (cut l lo hi))
  | .scr l, lo, hi => .ok (.lst (cut l lo hi))
  | .tup l, lo, hi => .ok (.tup (cut l lo hi))
  | .str s, lo, hi => if s.length ≤ LIM then .ok (.str (cutS s lo hi)) else .bad
  | _, _, _ => .bad
def asInt : D → R Int
  | .int i => .ok i
  | _ => .bad
def asInts : List D → Option (List Int)
  | [] => some []
  | .int i :: r => (asInts r).map (i :: ·)
  | _ :: _ => none
def asBools : List D → Option (List Bool)
  | [] => some []
  | .bl i :: r => (asBools r).map (i :: ·)
  | _ :: _ => none
/-- tuples of ints -/
def asTups : List D → Option (List (List Int))
  | [] => some []
  | .tup l :: r => (asInts l).bind fun ns => (asTups r).map (ns :: ·)
  | _ :: _ => none
def lexLe : List Int → List Int → Bool := fun a b => !HT.lexLt b a
def sortI (l : List Int) : List Int := l.mergeSort (fun a b => decide (a ≤ b))
def sortT (l : List (List Int)) : List (List Int) := l.mergeSort lexLe
/-- what an item of a key is: an int, a truth value, a tuple of so many ints -/
inductive Sh1 | i | b | t (n : Nat)
  deriving DecidableEq
def asNat (b : Bool) : Int := if b = true then 1 else 0
def shOf : List D → Option (List Sh1 × List Int)
  | [] => some ([], [])
  | .int x :: r => (shOf r).map fun p => (.i :: p.1, x :: p.2)
  | .bl c :: r => (shOf r).map fun p => (.b :: p.1, asNat c :: p.2)
  | .tup l :: r => (asInts l).bind fun ns => (shOf r).map fun p => (.t ns.length :: p.1, ns ++ p.2)
  | _ :: _ => none
def shD : D → Option (List Sh1)
  | .tup l => (shOf l).map (·.1)
  | _ => none
def keyT : D → List Int
  | .tup l => match shOf l with
    | some p => p.2
    | none => []
  | _ => []
/-- tuples whose first item is a tuple, all of one shape -/
def sortN : List D → R (List D)
  | [] => .bad
  | d :: r => match shD d with
    | some (.t n :: sh) => if (d :: r).all (fun e => decide (shD e = some (.t n :: sh))) = true then .ok ((d :: r).mergeSort fun a b => lexLe (keyT a) (keyT b)) else .bad
    | _ => .bad
def sortD (l : List D) : R (List D) :=
  match asInts l with
  | some ns => .ok ((sortI ns).map .int)
  | none => match asTups l with
    | some ts => if ts.all (fun t => !t.isEmpty) then .ok ((sortT ts).map fun t => .tup (t.map .int)) else .bad
    | none => sortN l
def maxI (x : Int) (l : List Int) : Int := l.foldl (fun a b => if b > a then b else a) x
def minI (x : Int) (l : List Int) : Int := l.foldl (fun a b => if b < a then b else a) x

/-- sorted(d) -/
def sortDic : Bool → List D → R D
  | false, ks => match asInts ks with
    | some ns => .ok (.lst ((sortI ns).map .int))
    | none => .bad
  | true, ks => match asTups ks with
    | some ts => if ts.all (fun t => !t.isEmpty) then .ok (.lst ((sortT ts).map fun t => .tup (t.map .int))) else .bad
    | none => .bad
/-- built-ins of one argument -/
inductive B1 | len | abs | int | list | tuple | sorted | sum | all | any | max | min | reprb
  deriving DecidableEq
def boolS : Bool → Str
  | true => "True"
  | false => "False"
def b1D : B1 → D → R D
  | .len, .lst l => .ok (.int l.length)
  | .len, .scr l => .ok (.int l.length)
  | .len, .tup l => .ok (.int l.length)
  | .len, .str s => if s.length ≤ LIM then .ok (.int s.length) else .bad
  | .len, .dic _ ks _ => .ok (.int ks.length)
  | .abs, .int i => .ok (.int (if i < 0 then -i else i))
  | .int, .int i => .ok (.int i)
  | .int, .bl b => .ok (.int (if b then 1 else 0))
  | .list, .lst l => .ok (.lst l)
  | .list, .tup l => .ok (.lst l)
  | .list, .dic _ ks _ => .ok (.lst ks)
  | .tuple, .lst l => .ok (.tup l)
  | .tuple, .tup l => .ok (.tup l)
  | .sorted, .lst l => (sortD l).bind fun r => .ok (.lst r)
  | .sorted, .tup l => (sortD l).bind fun r => .ok (.lst r)
  | .sorted, .dic t ks _ => sortDic t ks
  | .sum, .lst l => (R.of (asInts l)).bind fun ns => .ok (.int ns.sum)
  | .all, .lst l => (R.of (asBools l)).bind fun ns => .ok (.bl (ns.all id))
  | .any, .lst l => (R.of (asBools l)).bind fun ns => .ok (.bl (ns.any id))
  | .max, .lst l => match asInts l with
    | some (n :: ns) => .ok (.int (maxI n ns))
    | _ => .bad
  | .min, .lst l => match asInts l with
    | some (n :: ns) => .ok (.int (minI n ns))
    | _ => .bad
  | .max, .tup l => match asInts l with
    | some (n :: ns) => .ok (.int (maxI n ns))
    | _ => .bad
  | .min, .tup l => match asInts l with
    | some (n :: ns) => .ok (.int (minI n ns))
    | _ => .bad
  | .reprb, .bl b => .ok (.str (boolS b))
  | _, _ => .bad
inductive B2 | max | min
  deriving DecidableEq
def b2D : B2 → D → D → R D
  | .max, .int i, .int j => .ok (.int (if j > i then j else i))
  | .min, .int i, .int j => .ok (.int (if j < i then j else i))
  | _, _, _ => .bad

inductive Ty | non | bool | int | str | tuple | list
  deriving DecidableEq

/-! ### the state -/
/-- a slot: nothing, a value for good, a list of one's own, a list handed in to be changed, the exception at hand -/
inductive Sl where
  | un | val (d : D) | own (d : D) | par (d : D) | exc (c f : Str) (d : D)
abbrev ES := List Sl
def getv (st : ES) (i : Nat) : R D := match st[i]? with
  | some (.val d) => .ok d
  | _ => .bad
def getb (st : ES) (i : Nat) : R D := match st[i]? with
  | some (.val d) => .ok d
  | some (.own d) => .ok d
  | some (.par d) => .ok d
  | _ => .bad
/-- a name is stored (not one handed in to be changed) -/
def setv (st : ES) (i : Nat) (s : Sl) : R ES := match st[i]? with
  | some (.par _) => .bad
  | some (.exc _ _ _) => .bad
  | none => .bad
  | _ => .ok (st.set i s)

inductive Pat where
  | n (i : Nat) | t (is : List Nat)
  deriving DecidableEq
def setAll : List Nat → List D → ES → R ES
  | [], [], st => .ok st
  | i :: is, d :: ds, st => (setv st i (.val d)).bind (setAll is ds)
  | _, _, _ => .bad
def bindP : Pat → D → ES → R ES
  | .n i, d, st => setv st i (.val d)
  | .t is, .tup l, st => setAll is l st
  | .t is, .lst l, st => setAll is l st
  | _, _, _ => .bad

/-! ### the language -/
mutual
inductive IE where
  | var (i : Nat) | bor (i : Nat)
  | int (i : Int) | bl (b : Bool) | non | str (s : Str)
  | glob (n : Str) (d : D)
  | bin (op : BOp) (a b : IE)
  | neg (a : IE)
  | cmp (op : COp) (a b : IE)
  | chain (o1 o2 : COp) (a b c : IE)
  | isN (a : IE) | notN (a : IE)
  | and (l : IEs) | or (l : IEs) | not (a : IE)
  | ife (c : IQ) (a b : IE)
  | tup (l : IEs) | lst (l : IEs)
  | idx (a i : IE)
  | slc (a : IE) (lo hi : IO)
  | call (n : Str) (F : List D → R D) (l : IEs)
  | b1 (f : B1) (a : IE) | b2 (f : B2) (a b : IE)
  | lc (p : Pat) (own : List (Str × Nat)) (it : IT) (c : IQs) (e : IE)
  | xat (i : Nat) (c f : Str)
  | fld (c f : Str) (a : IE) | nset (a : IE)
  | b3 (f : B2) (a b c : IE) | isi (a : IE) (t : Ty) | isb (a : IE) (b : Bool) | rev (a : IE)
  | gfn (n : Str) | callv (i : Nat) (ks : List (Str × (List D → R D))) (l : IEs)
  | mk0 (c : Str) (a : IE) | mk1 (c f : Str) (a : IE) | xfld (c f : Str) (a : IE) | isx (a : IE) (t : Str) (ks : List (Str × Bool))
  | prop (c f : Str) (F : List D → R D) (a : IE)
  | meth (c m : Str) (F : List D → R D) (a : IE) (l : IEs)
  | make (c : Str) (F : List D → R D) (l : IEs)
  | lend (i : Nat) (a : IE) | dnew (t : Bool) | dget (a k x : IE) | dget1 (a k : IE) | ddis (a b : IE)
  | lrng (a : IE) | sset (a : IE) | lc2 (p : Pat) (own : List (Str × Nat)) (own2 : List Nat) (it : IT) (c : IQs) (p2 : Pat) (it2 : IT) (c2 : IQs) (e : IE)
inductive IEs where
  | nil | cons (a : IE) (r : IEs)
inductive IQ where
  | v (a : IE) | and (l : IQs) | or (l : IQs) | not (a : IQ)
inductive IQs where
  | nil | cons (a : IQ) (r : IQs)
inductive IO where
  | no | some (a : IE)
inductive IT where
  | vals (a : IE) | keys (a : IE) | seq (a : IE) | r1 (a : IE) | r2 (a b : IE) | enum (a : IE) | zip (a b : IE)
end

def intsTo (lo : Int) (n : Nat) : List D := (List.range n).map fun (i : Nat) => .int (lo + (i : Int))
def rangeD : D → R (List D)
  | .int n => if -(2 ^ 62) ≤ n ∧ n < 2 ^ 62 then .ok (intsTo 0 n.toNat) else .bad
  | _ => .bad
def range2D : D → D → R (List D)
  | .int m, .int n => if -(2 ^ 62) ≤ m ∧ m < 2 ^ 62 ∧ -(2 ^ 62) ≤ n ∧ n < 2 ^ 62 then .ok (intsTo m (n - m).toNat) else .bad
  | _, _ => .bad
def seqD : D → R (List D)
  | .lst l => .ok l
  | .scr l => .ok l
  | .tup l => .ok l
  | _ => .bad
def zseq : D → R (List D)
  | .lst l => .ok l
  | .scr l => .ok l
  | _ => .bad
def enumFrom (i : Nat) : List D → List D
  | [] => []
  | x :: r => .tup [.int (i : Int), x] :: enumFrom (i + 1) r
def zipD : List D → List D → List D
  | x :: xs, y :: ys => .tup [x, y] :: zipD xs ys
  | _, _ => []
/-- a comprehension's turns -/
def lcRun (bind : D → R ES) (test : ES → R Bool) (elt : ES → R D) : List D → R (List D)
  | [] => .ok []
  | x :: r => (bind x).bind fun st => (test st).bind fun b =>
      if b = true then (elt st).bind fun y => (lcRun bind test elt r).bind fun ys => .ok (y :: ys)
      else lcRun bind test elt r
/-- .. with two clauses -/
def lc2Run (bind : D → R ES) (test : ES → R Bool) (inner : ES → R (List D)) : List D → R (List D)
  | [] => .ok []
  | x :: r => (bind x).bind fun st => (test st).bind fun b =>
      if b = true then (inner st).bind fun ys => (lc2Run bind test inner r).bind fun zs => .ok (ys ++ zs)
      else lc2Run bind test inner r
/-- nothing leaves from inside a comprehension -/
def noErr {α : Type} : R α → R α
  | .err _ _ => .bad
  | x => x
def wipeS (st : ES) : List Nat → ES
  | [] => st
  | v :: vs => (wipeS st vs).set v .un

/-- a field of an object -/
def fldD (f : Str) : List Str → List D → R D
  | n :: ns, x :: xs => if n = f then .ok x else fldD f ns xs
  | _, _ => .bad
/-- each once -/
def onceT : List (List Int) → List (List Int)
  | [] => []
  | x :: r => if x ∈ r then onceT r else x :: onceT r
def onceJ (l : List Int) : List Int := l.foldl (fun a x => if a.any (· == x) then a else a ++ [x]) []
/-- len(set(xs)) -/
def nsetL (l : List D) : R D := match asInts l with
  | some ns => if ns.length < 4000 then .ok (.int (onceJ ns).length) else .bad
  | none => match asTups l with
    | some ts => if ts.length < 64 then .ok (.int (onceT ts).length) else .bad
    | none => .bad
def nsetT (l : List D) : R D := match asTups l with
  | some ts => if ts.length < 64 then .ok (.int (onceT ts).length) else .bad
  | none => .bad
def nsetD : D → R D
  | .lst l => nsetL l
  | .scr l => nsetL l
  | .tup l => nsetT l
  | _ => .bad
/-- sorted(set(xs)) -/
def onceI : List Int → List Int
  | [] => []
  | x :: r => if x ∈ r then onceI r else x :: onceI r
def ssetD : D → R D
  | .lst l => match asInts l with
    | some ns => if ns.length < 4000 ∧ (onceI ns).length < 64 then .ok (.lst ((sortI (onceI ns)).map .int)) else .bad
    | none => .bad
  | _ => .bad
/-- list(range(n)) -/
def lrngD : D → R D
  | .int n => if 0 ≤ n ∧ n ≤ 16777216 then .ok (.lst (intsTo 0 n.toNat)) else .bad
  | _ => .bad
/-- isinstance(x, T), plain types -/
def tyD : D → Option Ty
  | .non => some .non
  | .bl _ => some .bool
  | .int _ => some .int
  | .str _ => some .str
  | .tup _ => some .tuple
  | .lst _ => some .list
  | _ => none
def isiT (a t : Ty) : Bool := a == t || (a == .bool && t == .int)
def isiD (t : Ty) (d : D) : R D := match tyD d with
  | some a => .ok (.bl (isiT a t))
  | none => .bad
/-- the function that a value names -/
def fnOf (ks : List (Str × (List D → R D))) : D → Option (List D → R D)
  | .fn n => ks.lookup n
  | _ => none
/-- the field of an exception that is held as a value -/
def xfldD (c f : Str) : D → R D
  | .exv c' f' vs => if c' = c ∧ f' = f then (match vs with
    | [d] => .ok d
    | _ => .bad) else .bad
  | _ => .bad
/-- isinstance of such, told class by class -/
def isxD (ks : List (Str × Bool)) : D → R D
  | .exv c _ _ => match ks.lookup c with
    | some b => .ok (.bl b)
    | none => .bad
  | _ => .bad
/-- x is True, x is False -/
def isbD (b : Bool) : D → R Bool
  | .bl c => .ok (decide (c = b))
  | _ => .bad
/-! nothing in it that may be a list -/
mutual
def noLst : D → Bool
  | .non => true
  | .bl _ => true
  | .int _ => true
  | .str _ => true
  | .fn _ => true
  | .tup l => noLsts l
  | .obj _ _ vs => noLsts vs
  | _ => false
def noLsts : List D → Bool
  | [] => true
  | x :: xs => noLst x && noLsts xs
end
def noRes : R D → R D
  | .ok d => if noLst d = true then .ok d else .bad
  | .err c none => .err c none
  | .err c (some (f, d)) => if noLst d = true then .err c (some (f, d)) else .bad
  | .bad => .bad
mutual
def evE : IE → ES → R D
  | .var i, st => getv st i
  | .bor i, st => getb st i
  | .int i, _ => .ok (.int i)
  | .bl b, _ => .ok (.bl b)
  | .non, _ => .ok .non
  | .str s, _ => .ok (.str s)
  | .glob _ d, _ => .ok d
  | .bin op a b, st => (evE a st).bind fun x => (evE b st).bind fun y => binD op x y
  | .neg a, st => (evE a st).bind fun x => (asInt x).bind fun i => .ok (.int (-i))
  | .cmp op a b, st => (evE a st).bind fun x => (evE b st).bind fun y => (cmpD op x y).bind fun c => .ok (.bl c)
  | .chain o1 o2 a b c, st => (evE a st).bind fun x => (evE b st).bind fun y => (cmpD o1 x y).bind fun k =>
      if k = true then (evE c st).bind fun z => (cmpD o2 y z).bind fun k2 => .ok (.bl k2) else .ok (.bl false)
  | .isN a, st => (evE a st).bind fun x => .ok (.bl (isNon x))
  | .notN a, st => (evE a st).bind fun x => .ok (.bl (!isNon x))
  | .and l, st => evAnd l st
  | .or l, st => evOr l st
  | .not a, st => (evE a st).bind fun c => match c with
    | .bl b => .ok (.bl (!b))
    | _ => .bad
  | .ife c a b, st => (evT c st).bind fun k => if k = true then evE a st else evE b st
  | .tup l, st => (evEs l st).bind fun ds => if ds.length ≤ LIM then .ok (.tup ds) else .bad
  | .lst l, st => (evEs l st).bind fun ds => if ds.length ≤ LIM then .ok (.lst ds) else .bad
  | .idx a i, st => (evE a st).bind fun x => (evE i st).bind fun y => idxD x y
  | .slc a lo hi, st => (evE a st).bind fun x => (evO lo st).bind fun l => (evO hi st).bind fun h => sliceD x l h
  | .call _ F l, st => (evEs l st).bind F
  | .b1 f a, st => (evE a st).bind (b1D f)
  | .b2 f a b, st => (evE a st).bind fun x => (evE b st).bind fun y => b2D f x y
  | .lc p own it c e, st => (evI it st).bind fun l =>
      noErr ((lcRun (fun x => bindP p x (wipeS st (own.map (·.2)))) (fun s => evC c s) (fun s => evE e s) l).bind fun ds => if l.length ≤ LIM then .ok (.lst ds) else .bad)
  | .xat i c f, st => match st[i]? with
    | some (.exc c' g d) => if g = f ∧ c' = c then .ok d else .bad
    | _ => .bad
  | .fld c f a, st => (evE a st).bind fun x => match x with
    | .obj c' ns vs => if c' = c then fldD f ns vs else .bad
    | _ => .bad
  | .nset a, st => (evE a st).bind nsetD
  | .sset a, st => (evE a st).bind ssetD
  | .lrng a, st => (evE a st).bind lrngD
  | .lc2 p own own2 it c p2 it2 c2 e, st => (evI it st).bind fun l =>
      noErr ((lc2Run (fun x => bindP p x (wipeS st (own.map (·.2)))) (fun s => evC c s) (fun s => (evI it2 s).bind fun l2 => lcRun (fun x => bindP p2 x (wipeS s own2)) (fun s => evC c2 s) (fun s => evE e s) l2) l).bind fun ds => if ds.length ≤ LIM then .ok (.lst ds) else .bad)
  | .b3 f a b c, st => (evE a st).bind fun x => (evE b st).bind fun y => (evE c st).bind fun z => (b2D f x y).bind fun m => b2D f m z
  | .isi a t, st => (evE a st).bind (isiD t)
  | .isb a b, st => (evE a st).bind fun x => (isbD b x).bind fun k => .ok (.bl k)
  | .gfn n, _ => .ok (.fn n)
  | .callv i ks l, st => match st[i]? with
    | some (.val d) => match fnOf ks d with
      | some F => (evEs l st).bind F
      | none => .bad
    | _ => .bad
  | .mk0 c a, st => (evE a st).bind fun _ => .ok (.exv c "" [])
  | .mk1 c f a, st => (evE a st).bind fun x => .ok (.exv c f [x])
  | .xfld c f a, st => (evE a st).bind (xfldD c f)
  | .isx a _ ks, st => (evE a st).bind (isxD ks)
  | .rev a, st => (evE a st).bind fun x => match x with
    | .lst l => .ok (.lst l.reverse)
    | .scr l => .ok (.lst l.reverse)
    | .tup l => .ok (.tup l.reverse)
    | _ => .bad
  | .prop c _ F a, st => (evE a st).bind fun x => match x with
    | .obj c' ns vs => if c' = c then noErr (F [.obj c' ns vs]) else .bad
    | _ => .bad
  | .meth c m F a l, st => (evE a st).bind fun x => match x with
    | .obj c' ns vs => if c' = c ∧ m ∉ ns then (evEs l st).bind fun ds => F (.obj c' ns vs :: ds) else .bad
    | _ => .bad
  | .make _ F l, st => (evEs l st).bind F
  | .dnew t, _ => .ok (.dic t [] [])
  | .dget a k x, st => (evE a st).bind fun d => match d with
    | .dic t ks vs => (evE k st).bind fun y => (evE x st).bind fun z => if keyOk t y = true then .ok ((dlook ks vs y).getD z) else .bad
    | _ => .bad
  | .dget1 a k, st => (evE a st).bind fun d => match d with
    | .dic t ks vs => (evE k st).bind fun y => if keyOk t y = true then .ok ((dlook ks vs y).getD .non) else .bad
    | _ => .bad
  | .ddis a b, st => noErr ((evE a st).bind fun x => (evE b st).bind fun y => if keyOk true x = true then .ok (.dic true [x] [y]) else .bad)
  | .lend i a, st => match st[i]? with
    | some (.own (.lst l)) => noRes (evE a (st.set i (.val (.lst l))))
    | _ => .bad
/-- and, or as values: truth values alone -/
def evAnd : IEs → ES → R D
  | .nil, _ => .ok (.bl true)
  | .cons a r, st => (evE a st).bind fun x => match x with
    | .bl true => evAnd r st
    | .bl false => .ok (.bl false)
    | _ => .bad
def evOr : IEs → ES → R D
  | .nil, _ => .ok (.bl false)
  | .cons a r, st => (evE a st).bind fun x => match x with
    | .bl true => .ok (.bl true)
    | .bl false => evOr r st
    | _ => .bad
/-- a test -/
def evT : IQ → ES → R Bool
  | .v a, st => (evE a st).bind tru
  | .and l, st => evAndT l st
  | .or l, st => evOrT l st
  | .not a, st => (evT a st).bind fun c => .ok (!c)
def evAndT : IQs → ES → R Bool
  | .nil, _ => .ok true
  | .cons a r, st => (evT a st).bind fun k => if k = true then evAndT r st else .ok false
def evOrT : IQs → ES → R Bool
  | .nil, _ => .ok false
  | .cons a r, st => (evT a st).bind fun k => if k = true then .ok true else evOrT r st
def evEs : IEs → ES → R (List D)
  | .nil, _ => .ok []
  | .cons a r, st => (evE a st).bind fun x => (evEs r st).bind fun xs => .ok (x :: xs)
/-- a comprehension's tests -/
def evC : IQs → ES → R Bool
  | .nil, _ => .ok true
  | .cons a _, st => evT a st
def evO : IO → ES → R (Option Int)
  | .no, _ => .ok none
  | .some a, st => (evE a st).bind fun x => (asInt x).bind fun i => .ok (some i)
def evI : IT → ES → R (List D)
  | .vals a, st => (evE a st).bind fun x => match x with
    | .dic false _ vs => .ok vs
    | _ => .bad
  | .keys a, st => (evE a st).bind fun x => match x with
    | .dic false ks _ => .ok ks
    | _ => .bad
  | .seq a, st => (evE a st).bind seqD
  | .r1 a, st => (evE a st).bind rangeD
  | .r2 a b, st => (evE a st).bind fun x => (evE b st).bind fun y => range2D x y
  | .enum a, st => (evE a st).bind fun x => (seqD x).bind fun l => .ok (enumFrom 0 l)
  | .zip a b, st => (evE a st).bind fun x => (evE b st).bind fun y => (zseq x).bind fun l => (zseq y).bind fun m => .ok (zipD l m)
end
end M
namespace M
example (a b : IE) (st : ES) : evE (.bin .add a b) st = (evE a st).bind fun x => (evE b st).bind fun y => binD .add x y := rfl
example (a : IE) (st : ES) : evT (.v a) st = (evE a st).bind tru := rfl
end M
set_option Elab.async false
set_option linter.all false
set_option maxRecDepth 100000
set_option maxHeartbeats 2000000
/-! M, part B: what a value stands for on the heap; the state. -/
namespace M
open PySem L2 PySem.Spec PyProof.Rows

/-- what is fixed through the whole law -/
structure Glob where
  P : Program
  w : World
  K : PySem.W.Frag
  mg : Str → Option Value
  base : Heap

def keyD : Key → D
  | .inl i => .int i
  | .inr s => .str s

/-- what stands at a is an exception object of that class, with that dict -/
def IsX (o : HO) (cls : Value) (dx : Option Addr) (a : Addr) : Prop := ∀ (P : Program) (w : World) (H : Hp) (h : Heap), ObjOk P w H h a o → ∃ oe vs, h.get? a = some oe ∧ Zc cls dx oe ∧ oe.data = .fields vs
mutual
def Rep (G : Glob) (H : Hp) : D → V → Prop
  | .non, v => v = .non
  | .bl b, v => v = .bl b
  | .int i, v => v = .int i
  | .str s, v => v = .str s
  | .tup l, v => ∃ a vs, v = .ref a ∧ H a = some (.tup vs) ∧ Reps G H l vs
  | .lst l, v => ∃ a vs, v = .ref a ∧ H a = some (.lst vs) ∧ Reps G H l vs
  | .scr l, v => ∃ a vs, v = .ref a ∧ SqL G.K H a vs ∧ Reps G H l vs
  | .dic t ks ds, v => ∃ a od, v = .ref a ∧ ((t = false ∧ ∃ kvs, H a = some (.frz od (.dK kvs)) ∧ ks = kvs.map (fun p => keyD p.1) ∧ Reps G H ds (kvs.map (·.2))) ∨
      (t = true ∧ ∃ kvs, H a = some (.frz od (.dT kvs)) ∧ ks = kvs.map (fun p => D.tup (p.1.map keyD)) ∧ Reps G H ds (kvs.map (·.2))))
  | .obj c ns ds, v => ∃ a C dx fs, v = .ref a ∧ G.mg c = some (.ref C) ∧ H a = some (.ins C dx fs) ∧ fs.map (·.1) = ns ∧ Reps G H ds (fs.map (·.2))
  | .exv c f ds, v => ∃ a C dx o vs, v = .ref a ∧ G.mg c = some (.ref C) ∧ H a = some o ∧ IsX o (.ref C) dx a ∧ Reps G H ds vs ∧ ((vs = [] ∧ dx = none) ∨ ∃ y dd, vs = [y] ∧ dx = some dd ∧ H dd = some (.xd [(f, y)]))
  | .fn n, v => ∃ f, v = .ref f ∧ G.mg n = some (.ref f)
def Reps (G : Glob) (H : Hp) : List D → List V → Prop
  | [], vs => vs = []
  | d :: ds, vs => ∃ v r, vs = v :: r ∧ Rep G H d v ∧ Reps G H ds r
end

section
variable {G : Glob} {H H' P P' : Hp}
theorem Same.tup {K : PySem.W.Frag} {H H' : Hp} {a : Addr} {xs : List V} (e : Same H H') (h : SqT K H a xs) : SqT K H' a xs := by
  rcases h with (h | ⟨o, h⟩) | h
  · exact .inl (.inl (e _ _ h))
  · exact .inl (.inr ⟨o, e _ _ h⟩)
  · exact .inr h
theorem Same.rd {H H' : Hp} {a : Addr} {o : HO} (e : Same H H') (h : Rd H a o) : Rd H' a o := by
  rcases h with h | ⟨ob, h⟩
  · exact .inl (e _ _ h)
  · exact .inr ⟨ob, e _ _ h⟩
mutual
theorem Rep.mono (e : Same H H') : ∀ (d : D) (v : V), Rep G H d v → Rep G H' d v
  | .non, _, h => by simpa only [Rep] using h
  | .bl _, _, h => by simpa only [Rep] using h
  | .int _, _, h => by simpa only [Rep] using h
  | .str _, _, h => by simpa only [Rep] using h
  | .tup l, v, h => by
    simp only [Rep] at h ⊢
    obtain ⟨a, vs, rfl, h1, h2⟩ := h
    exact ⟨a, vs, rfl, e _ _ h1, Reps.mono e l vs h2⟩
  | .lst l, v, h => by
    simp only [Rep] at h ⊢
    obtain ⟨a, vs, rfl, h1, h2⟩ := h
    exact ⟨a, vs, rfl, e _ _ h1, Reps.mono e l vs h2⟩
  | .scr l, v, h => by
    simp only [Rep] at h ⊢
    obtain ⟨a, vs, rfl, h1, h2⟩ := h
    exact ⟨a, vs, rfl, Same.seq e h1, Reps.mono e l vs h2⟩
  | .dic t ks ds, v, h => by
    simp only [Rep] at h ⊢
    obtain ⟨a, od, rfl, h⟩ := h
    refine ⟨a, od, rfl, ?_⟩
    rcases h with ⟨ht, kvs, h1, h2, h3⟩ | ⟨ht, kvs, h1, h2, h3⟩
    · exact .inl ⟨ht, kvs, e _ _ h1, h2, Reps.mono e ds _ h3⟩
    · exact .inr ⟨ht, kvs, e _ _ h1, h2, Reps.mono e ds _ h3⟩
  | .obj c ns ds, v, h => by
    simp only [Rep] at h ⊢
    obtain ⟨a, C, dx, fs, rfl, h1, h2, h3, h4⟩ := h
    exact ⟨a, C, dx, fs, rfl, h1, e _ _ h2, h3, Reps.mono e ds _ h4⟩
  | .exv c f ds, v, h => by
    simp only [Rep] at h ⊢
    obtain ⟨a, C, dx, o, vs, rfl, h1, h2, h3, h4, h5⟩ := h
    exact ⟨a, C, dx, o, vs, rfl, h1, e _ _ h2, h3, Reps.mono e ds _ h4, by
      rcases h5 with h5 | ⟨y, dd, k0, k1, k2⟩
      · exact .inl h5
      · exact .inr ⟨y, dd, k0, k1, e _ _ k2⟩⟩
  | .fn _, _, h => by simpa only [Rep] using h
theorem Reps.mono (e : Same H H') : ∀ (ds : List D) (vs : List V), Reps G H ds vs → Reps G H' ds vs
  | [], _, h => by simpa only [Reps] using h
  | d :: ds, vs, h => by
    simp only [Reps] at h ⊢
    obtain ⟨v, r, rfl, h1, h2⟩ := h
    exact ⟨v, r, rfl, Rep.mono e d v h1, Reps.mono e ds r h2⟩
end
theorem Reps.nil : Reps G H [] [] := by simp only [Reps]
theorem Reps.cons {d : D} {v : V} {ds : List D} {vs : List V} (h : Rep G H d v) (r : Reps G H ds vs) : Reps G H (d :: ds) (v :: vs) := by
  simp only [Reps]; exact ⟨v, vs, rfl, h, r⟩
theorem Reps.nil_inv {vs : List V} (h : Reps G H [] vs) : vs = [] := by simpa only [Reps] using h
theorem Reps.cons_inv {d : D} {ds : List D} {vs : List V} (h : Reps G H (d :: ds) vs) : ∃ v r, vs = v :: r ∧ Rep G H d v ∧ Reps G H ds r := by
  simpa only [Reps] using h
theorem Reps.length : ∀ {ds : List D} {vs : List V}, Reps G H ds vs → vs.length = ds.length
  | [], vs, h => by rw [h.nil_inv]; rfl
  | d :: ds, vs, h => by
    obtain ⟨v, r, rfl, _, h2⟩ := h.cons_inv
    simp only [List.length_cons, h2.length]
theorem Reps.get : ∀ {ds : List D} {vs : List V} {i : Nat} {d : D}, Reps G H ds vs → ds[i]? = some d → ∃ v, vs[i]? = some v ∧ Rep G H d v
  | [], _, _, _, _, e => by simp at e
  | d :: ds, vs, 0, x, h, e => by
    obtain ⟨v, r, rfl, h1, _⟩ := h.cons_inv
    simp only [List.getElem?_cons_zero, Option.some.injEq] at e
    subst e
    exact ⟨v, rfl, h1⟩
  | d :: ds, vs, i + 1, x, h, e => by
    obtain ⟨v, r, rfl, _, h2⟩ := h.cons_inv
    simp only [List.getElem?_cons_succ] at e ⊢
    exact h2.get e
theorem Reps.getV : ∀ {ds : List D} {vs : List V} {i : Nat} {v : V}, Reps G H ds vs → vs[i]? = some v → ∃ d, ds[i]? = some d ∧ Rep G H d v
  | [], vs, _, _, h, e => by rw [h.nil_inv] at e; simp at e
  | d :: ds, vs, 0, x, h, e => by
    obtain ⟨v, r, rfl, h1, _⟩ := h.cons_inv
    simp only [List.getElem?_cons_zero, Option.some.injEq] at e
    subst e
    exact ⟨d, rfl, h1⟩
  | d :: ds, vs, i + 1, x, h, e => by
    obtain ⟨v, r, rfl, _, h2⟩ := h.cons_inv
    simp only [List.getElem?_cons_succ] at e ⊢
    exact h2.getV e
theorem Reps.append : ∀ {ds es : List D} {vs us : List V}, Reps G H ds vs → Reps G H es us → Reps G H (ds ++ es) (vs ++ us)
  | [], es, vs, us, h, k => by rw [h.nil_inv]; exact k
  | d :: ds, es, vs, us, h, k => by
    obtain ⟨v, r, rfl, h1, h2⟩ := h.cons_inv
    exact Reps.cons h1 (h2.append k)
theorem Reps.take : ∀ {ds : List D} {vs : List V} (n : Nat), Reps G H ds vs → Reps G H (ds.take n) (vs.take n)
  | _, _, 0, _ => by simp only [List.take_zero]; exact Reps.nil
  | [], vs, n + 1, h => by rw [h.nil_inv]; simp only [List.take_nil]; exact Reps.nil
  | d :: ds, vs, n + 1, h => by
    obtain ⟨v, r, rfl, h1, h2⟩ := h.cons_inv
    simp only [List.take_succ_cons]
    exact Reps.cons h1 (h2.take n)
theorem Reps.drop : ∀ {ds : List D} {vs : List V} (n : Nat), Reps G H ds vs → Reps G H (ds.drop n) (vs.drop n)
  | _, _, 0, h => by simpa only [List.drop_zero] using h
  | [], vs, n + 1, h => by rw [h.nil_inv]; simp only [List.drop_nil]; exact Reps.nil
  | d :: ds, vs, n + 1, h => by
    obtain ⟨v, r, rfl, h1, h2⟩ := h.cons_inv
    simp only [List.drop_succ_cons]
    exact h2.drop n
theorem Reps.set : ∀ {ds : List D} {vs : List V} (i : Nat) {d : D} {v : V}, Reps G H ds vs → Rep G H d v → Reps G H (ds.set i d) (vs.set i v)
  | [], vs, i, d, v, h, _ => by rw [h.nil_inv]; exact Reps.nil
  | e :: ds, vs, 0, d, v, h, k => by
    obtain ⟨u, r, rfl, h1, h2⟩ := h.cons_inv
    exact Reps.cons k h2
  | e :: ds, vs, i + 1, d, v, h, k => by
    obtain ⟨u, r, rfl, h1, h2⟩ := h.cons_inv
    exact Reps.cons h1 (h2.set i k)
theorem Reps.rep (ds : List D) (vs : List V) (h : Reps G H ds vs) : ∀ k : Nat, Reps G H (List.replicate k ds).flatten (List.replicate k vs).flatten
  | 0 => Reps.nil
  | k + 1 => by
    rw [List.replicate_succ, List.replicate_succ, List.flatten_cons, List.flatten_cons]
    exact h.append (h.rep ds vs k)
theorem Reps.perm {ds es : List D} (p : ds.Perm es) : ∀ {vs : List V}, Reps G H ds vs → ∃ us, us.Perm vs ∧ Reps G H es us := by
  induction p with
  | nil => intro vs h; exact ⟨vs, .refl _, h⟩
  | cons x _ ih =>
    intro vs h
    obtain ⟨v, r, rfl, h1, h2⟩ := h.cons_inv
    obtain ⟨us, q, k⟩ := ih h2
    exact ⟨v :: us, q.cons v, Reps.cons h1 k⟩
  | swap x y l =>
    intro vs h
    obtain ⟨v, r, rfl, h1, h2⟩ := h.cons_inv
    obtain ⟨u, r', rfl, h3, h4⟩ := h2.cons_inv
    exact ⟨u :: v :: r', .swap _ _ _, Reps.cons h3 (Reps.cons h1 h4)⟩
  | trans _ _ ih1 ih2 =>
    intro vs h
    obtain ⟨us, q, k⟩ := ih1 h
    obtain ⟨ws, q2, k2⟩ := ih2 k
    exact ⟨ws, q2.trans q, k2⟩
theorem reps_ints : ∀ {ns : List Int} {vs : List V}, Reps G H (ns.map D.int) vs → vs = ns.map V.int
  | [], vs, h => h.nil_inv
  | n :: ns, vs, h => by
    obtain ⟨v, r, rfl, h1, h2⟩ := Reps.cons_inv (d := .int n) (ds := ns.map D.int) h
    simp only [Rep] at h1
    rw [h1, reps_ints h2]; rfl
theorem ints_reps (G : Glob) (H : Hp) : ∀ (ns : List Int), Reps G H (ns.map D.int) (ns.map V.int)
  | [] => Reps.nil
  | n :: ns => Reps.cons (by simp only [Rep]) (ints_reps G H ns)
theorem asInts_map : ∀ {ds : List D} {ns : List Int}, asInts ds = some ns → ds = ns.map D.int
  | [], ns, h => by simp only [asInts, Option.some.injEq] at h; rw [← h]; rfl
  | .int i :: r, ns, h => by
    simp only [asInts, Option.map_eq_some_iff] at h
    obtain ⟨m, h1, rfl⟩ := h
    rw [asInts_map h1]; rfl
  | .non :: _, _, h => by simp [asInts] at h
  | .bl _ :: _, _, h => by simp [asInts] at h
  | .str _ :: _, _, h => by simp [asInts] at h
  | .tup _ :: _, _, h => by simp [asInts] at h
  | .lst _ :: _, _, h => by simp [asInts] at h
  | .dic _ _ _ :: _, _, h => by simp [asInts] at h
  | .scr _ :: _, _, h => by simp [asInts] at h
  | .obj _ _ _ :: _, _, h => by simp [asInts] at h
  | .exv _ _ _ :: _, _, h => by simp [asInts] at h
  | .fn _ :: _, _, h => by simp [asInts] at h
theorem asInts_of (ns : List Int) : asInts (ns.map D.int) = some ns := by
  induction ns with
  | nil => rfl
  | cons n ns ih => simp only [List.map_cons, asInts, ih, Option.map_some]
theorem asBools_map : ∀ {ds : List D} {ns : List Bool}, asBools ds = some ns → ds = ns.map D.bl
  | [], ns, h => by simp only [asBools, Option.some.injEq] at h; rw [← h]; rfl
  | .bl i :: r, ns, h => by
    simp only [asBools, Option.map_eq_some_iff] at h
    obtain ⟨m, h1, rfl⟩ := h
    rw [asBools_map h1]; rfl
  | .non :: _, _, h => by simp [asBools] at h
  | .int _ :: _, _, h => by simp [asBools] at h
  | .str _ :: _, _, h => by simp [asBools] at h
  | .tup _ :: _, _, h => by simp [asBools] at h
  | .lst _ :: _, _, h => by simp [asBools] at h
  | .dic _ _ _ :: _, _, h => by simp [asBools] at h
  | .scr _ :: _, _, h => by simp [asBools] at h
  | .obj _ _ _ :: _, _, h => by simp [asBools] at h
  | .exv _ _ _ :: _, _, h => by simp [asBools] at h
  | .fn _ :: _, _, h => by simp [asBools] at h
theorem asBools_of (ns : List Bool) : asBools (ns.map D.bl) = some ns := by
  induction ns with
  | nil => rfl
  | cons n ns ih => simp only [List.map_cons, asBools, ih, Option.map_some]
theorem reps_bools : ∀ {ns : List Bool} {vs : List V}, Reps G H (ns.map D.bl) vs → vs = ns.map V.bl
  | [], vs, h => h.nil_inv
  | n :: ns, vs, h => by
    obtain ⟨v, r, rfl, h1, h2⟩ := Reps.cons_inv (d := .bl n) (ds := ns.map D.bl) h
    simp only [Rep] at h1
    rw [h1, reps_bools h2]; rfl

/-! ### growing -/
/-- new at a: nothing stood there, or this very tuple -/
def NewAt (H : Hp) (a : Addr) (o : HO) : Prop := H a = none ∨ ∃ vs, o = .tup vs ∧ H a = some (.tup vs)
theorem NewAt.back {H H1 : Hp} {a : Addr} {o : HO} (h : NewAt H1 a o) (e : Same H H1) : NewAt H a o := by
  rcases h with h | ⟨vs, rfl, h⟩
  · exact .inl (e.free h)
  · cases q : H a with
    | none => exact .inl q
    | some x =>
      have z := e _ _ q
      rw [h] at z
      cases z
      exact .inr ⟨vs, rfl, q⟩
theorem NewAt.not {H : Hp} {a : Addr} {o x : HO} (h : NewAt H a x) (e : H a = some o) (ho : ∀ us, o ≠ .tup us) : False := by
  rcases h with h | ⟨vs, rfl, h⟩
  · rw [e] at h; cases h
  · rw [e] at h; cases h; exact ho _ rfl
structure Gr (P H P' H' : Hp) : Prop where
  pp : Same P P'
  hh : Same H H'
  ph : Same P' H'
  nw : ∀ a o, P' a = some o → P a = some o ∨ NewAt H a o
theorem Gr.refl (h : Same P H) : Gr P H P H := ⟨Same.refl _, Same.refl _, h, fun _ _ e => .inl e⟩
theorem Gr.trans {P1 H1 P2 H2 : Hp} (g : Gr P H P1 H1) (k : Gr P1 H1 P2 H2) : Gr P H P2 H2 :=
  ⟨g.pp.trans k.pp, g.hh.trans k.hh, k.ph, fun a o e => by
    rcases k.nw a o e with q | q
    · exact g.nw a o q
    · exact .inr (q.back g.hh)⟩
theorem same_new {p : Addr} {o : HO} (h : H p = none) : Same H (upd H p o) := fun b x e => by
  rw [upd_ne (ne_of_none e h)]
  exact e
/-- a new thing is laid, for good -/
theorem Gr.laid {p : Addr} {o : HO} (s : Same P H) (h : H p = none) : Gr P H (upd P p o) (upd H p o) := by
  have hp : P p = none := s.free h
  refine ⟨same_new hp, same_new h, fun b x e => ?_, fun a x e => ?_⟩
  · by_cases hb : b = p
    · rw [hb, upd_same] at e ⊢; exact e
    · rw [upd_ne hb] at e ⊢; exact s _ _ e
  · by_cases ha : a = p
    · exact .inr (.inl (by rw [ha]; exact h))
    · rw [upd_ne ha] at e; exact .inl e
/-- a new thing is laid, of one's own -/
theorem Gr.made {p : Addr} {o : HO} (s : Same P H) (h : H p = none) : Gr P H P (upd H p o) :=
  ⟨Same.refl _, same_new h, s.trans (same_new h), fun _ _ e => .inl e⟩

/-! ### things of one's own -/
def Cont (G : Glob) (P : Hp) : D → HO → Prop
  | .lst l, .lst vs => Reps G P l vs
  | .dic false ks ds, .dK kvs => ks = kvs.map (fun p => keyD p.1) ∧ Reps G P ds (kvs.map (·.2))
  | .dic true ks ds, .dT kvs => ks = kvs.map (fun p => D.tup (p.1.map keyD)) ∧ Reps G P ds (kvs.map (·.2))
  | .obj c ns ds, .ins C _ fs => G.mg c = some (.ref C) ∧ fs.map (·.1) = ns ∧ Reps G P ds (fs.map (·.2))
  | _, _ => False
theorem Cont.mono (e : Same P P') {d : D} {o : HO} (h : Cont G P d o) : Cont G P' d o := by
  unfold Cont at h ⊢
  split at h
  · exact h.mono e
  · exact ⟨h.1, h.2.mono e⟩
  · exact ⟨h.1, h.2.mono e⟩
  · exact ⟨h.1, h.2.1, h.2.2.mono e⟩
  · exact h.elim
/-- not a dict -/
def nd : D → Bool
  | .dic _ _ _ => false
  | _ => true
theorem Cont.rep {a : Addr} {d : D} {o : HO} (hd : nd d = true) (h : Cont G P d o) (q : P a = some o) : Rep G P d (.ref a) := by
  unfold Cont at h
  split at h
  · simp only [Rep]; exact ⟨a, _, rfl, q, h⟩
  · cases hd
  · cases hd
  · simp only [Rep]; exact ⟨a, _, _, _, rfl, h.1, q, h.2.1, h.2.2⟩
  · exact h.elim
/-- at p a thing d that is not for good -/
structure OwnAt (G : Glob) (P H : Hp) (p : Addr) (d : D) : Prop where
  no : P p = none
  at_ : ∃ o, H p = some o ∧ Cont G P d o
theorem OwnAt.rep (s : Same P H) {p : Addr} {d : D} (hd : nd d = true) (h : OwnAt G P H p d) : Rep G H d (.ref p) := by
  obtain ⟨o, h1, h2⟩ := h.at_
  exact (h2.mono s).rep hd h1
theorem Cont.ntup {d : D} {o : HO} (h : Cont G P d o) : ∀ us, o ≠ .tup us := by
  intro us e
  subst e
  cases d with
  | dic t _ _ => cases t <;> exact h
  | _ => exact h
theorem OwnAt.grow {P1 H1 : Hp} {p : Addr} {d : D} (h : OwnAt G P H p d) (g : Gr P H P1 H1) : OwnAt G P1 H1 p d := by
  obtain ⟨o, h1, h2⟩ := h.at_
  refine ⟨?_, o, g.hh _ _ h1, h2.mono g.pp⟩
  cases q : P1 p with
  | none => rfl
  | some x =>
    rcases g.nw p x q with z | z
    · rw [h.no] at z; cases z
    · exact (z.not h1 h2.ntup).elim
/-- it is put among what is for good -/
theorem OwnAt.freeze (s : Same P H) {p : Addr} {d : D} (hd : nd d = true) (h : OwnAt G P H p d) : ∃ o, H p = some o ∧ Same P (upd P p o) ∧ Same (upd P p o) H ∧ Rep G (upd P p o) d (.ref p) := by
  obtain ⟨o, h1, h2⟩ := h.at_
  have e : Same P (upd P p o) := same_new h.no
  refine ⟨o, h1, e, fun b x q => ?_, (h2.mono e).rep hd upd_same⟩
  by_cases hb : b = p
  · rw [hb, upd_same] at q; cases q; rw [hb]; exact h1
  · rw [upd_ne hb] at q; exact s _ _ q
end

/-! ### the state -/
/-- the frame of a walk: what stood at the entry (all but what was handed in to be changed); where the handed-in things stand; the exception at hand -/
structure Fx where
  B : Hp
  pa : Nat → Option Addr
  xa : Option (Addr × Value × Option Addr)

def SlOk (G : Glob) (F : Fx) (P H : Hp) (i : Nat) : Sl → Option V → Prop
  | .un, _ => True
  | .val d, o => ∃ v, o = some v ∧ Rep G P d v
  | .own d, o => ∃ a, o = some (.ref a) ∧ F.B a = none ∧ OwnAt G P H a d
  | .par d, o => ∃ a, o = some (.ref a) ∧ F.pa i = some a ∧ F.B a = none ∧ OwnAt G P H a d
  | .exc c f d, o => ∃ a cls dd v, F.xa = some (a, cls, some dd) ∧ o = some (.ref a) ∧ G.mg c = some cls ∧ P dd = some (.xd [(f, v)]) ∧ Rep G P d v
def isOwn : Sl → Bool
  | .own _ => true
  | .par _ => true
  | _ => false
structure StOk (G : Glob) (F : Fx) (P H : Hp) (σ : L2.St) (st : ES) : Prop where
  len : σ.length = st.length
  ex : Same P H
  exB : Same F.B H
  slot : ∀ i s o, st[i]? = some s → σ[i]? = some o → SlOk G F P H i s o
  dist : ∀ (i j : Nat) (s t : Sl) (a : Addr), i ≠ j → st[i]? = some s → st[j]? = some t → isOwn s = true → isOwn t = true → σ[i]? = some (some (V.ref a)) → σ[j]? = some (some (V.ref a)) → False

section
variable {G : Glob} {F : Fx} {P H P' H' : Hp} {σ : L2.St} {st : ES}
theorem SlOk.grow {i : Nat} {s : Sl} {o : Option V} (g : Gr P H P' H') (h : SlOk G F P H i s o) : SlOk G F P' H' i s o := by
  cases s with
  | un => trivial
  | val d => obtain ⟨v, e, r⟩ := h; exact ⟨v, e, r.mono g.pp⟩
  | own d => obtain ⟨a, e, b, r⟩ := h; exact ⟨a, e, b, r.grow g⟩
  | par d => obtain ⟨a, e, q, b, r⟩ := h; exact ⟨a, e, q, b, r.grow g⟩
  | exc c f d => obtain ⟨a, cls, dd, v, e1, e2, e3, e4, r⟩ := h; exact ⟨a, cls, dd, v, e1, e2, e3, g.pp _ _ e4, r.mono g.pp⟩
theorem StOk.grow (h : StOk G F P H σ st) (g : Gr P H P' H') : StOk G F P' H' σ st :=
  ⟨h.len, g.ph, h.exB.trans g.hh, fun i s o e1 e2 => (h.slot i s o e1 e2).grow g, h.dist⟩
theorem StOk.at_ (h : StOk G F P H σ st) {i : Nat} {s : Sl} (e : st[i]? = some s) : ∃ o, σ[i]? = some o ∧ SlOk G F P H i s o := by
  have hi : i < σ.length := by rw [h.len]; exact (List.getElem?_eq_some_iff.mp e).1
  exact ⟨σ[i], List.getElem?_eq_getElem hi, h.slot i s _ e (List.getElem?_eq_getElem hi)⟩
theorem getv_ok {d : D} {i : Nat} (h : StOk G F P H σ st) (e : getv st i = .ok d) : ∃ v, σ[i]? = some (some v) ∧ Rep G P d v := by
  unfold getv at e
  split at e
  · rename_i x hx
    cases e
    obtain ⟨o, h1, v, rfl, r⟩ := h.at_ hx
    exact ⟨v, h1, r⟩
  · cases e
end
end M
set_option Elab.async false
set_option linter.all false
set_option maxRecDepth 100000
set_option maxHeartbeats 2000000
/-! M, part C: operators by values. -/
namespace M
open PySem L2 PySem.Spec PyProof.Rows

/-! ### data as the library compares it -/
mutual
def toPy : D → PyData
  | .non => .none
  | .bl b => .bool b
  | .int i => .int i
  | .str s => .str s
  | .tup l => .tuple (toPys l)
  | .lst l => .list (toPys l)
  | _ => .none
def toPys : List D → List PyData
  | [] => []
  | x :: xs => toPy x :: toPys xs
end
mutual
theorem good_lay : ∀ (n : Nat) (d : D), good n d = true → (toPy d).canLay0 = true ∧ (toPy d).depth ≤ n
  | n, .non, _ => by cases n <;> exact ⟨rfl, Nat.zero_le _⟩
  | n, .bl _, _ => by cases n <;> exact ⟨rfl, Nat.zero_le _⟩
  | n, .int _, _ => by cases n <;> exact ⟨rfl, Nat.zero_le _⟩
  | n, .str s, h => by
    refine ⟨?_, ?_⟩
    · cases n <;> simpa only [good, toPy] using h
    · cases n <;> simp only [toPy, PyData.depth] <;> omega
  | 0, .tup l, h => by simp [good] at h
  | 0, .lst l, h => by simp [good] at h
  | n + 1, .tup l, h => by
    simp only [good] at h
    obtain ⟨h1, h2⟩ := goods_lay n l h
    simp only [toPy, PyData.canLay0, PyData.depth]
    exact ⟨h1, by omega⟩
  | n + 1, .lst l, h => by
    simp only [good] at h
    obtain ⟨h1, h2⟩ := goods_lay n l h
    simp only [toPy, PyData.canLay0, PyData.depth]
    exact ⟨h1, by omega⟩
  | n, .dic _ _ _, h => by cases n <;> simp [good] at h
  | n, .scr _, h => by cases n <;> simp [good] at h
  | n, .obj _ _ _, h => by cases n <;> simp [good] at h
  | n, .exv _ _ _, h => by cases n <;> simp [good] at h
  | n, .fn _, h => by cases n <;> simp [good] at h
theorem goods_lay : ∀ (n : Nat) (l : List D), goods n l = true → PyData.canLayAll0 (toPys l) = true ∧ PyData.depthAll (toPys l) ≤ n
  | n, [], _ => by simp [toPys, PyData.canLayAll0, PyData.depthAll]
  | n, x :: xs, h => by
    have h' : good n x = true ∧ goods n xs = true := by cases n <;> simpa only [goods, Bool.and_eq_true] using h
    obtain ⟨h1, h2⟩ := good_lay n x h'.1
    obtain ⟨h3, h4⟩ := goods_lay n xs h'.2
    simp only [toPys, PyData.canLayAll0, PyData.depthAll, h1, h3, Bool.and_self, true_and]
    omega
end
theorem good_shaped {n : Nat} {d : D} (h : good n d = true) (hn : n ≤ 63) : SeqAt.shaped (toPy d) = true := by
  obtain ⟨h1, h2⟩ := good_lay n d h
  unfold SeqAt.shaped
  rw [h1, Bool.true_and]
  exact decide_eq_true (by omega)
mutual
theorem good_dp {G : Glob} {H : Hp} : ∀ (n : Nat) (d : D) (v : V), good n d = true → Rep G H d v → Dp G.K H v (toPy d)
  | n, .non, v, _, r => by simp only [Rep] at r; subst r; exact .non
  | n, .bl b, v, _, r => by simp only [Rep] at r; subst r; exact .bl b
  | n, .int i, v, _, r => by simp only [Rep] at r; subst r; exact .int i
  | n, .str s, v, _, r => by simp only [Rep] at r; subst r; exact .str s
  | 0, .tup l, _, h, _ => by simp [good] at h
  | 0, .lst l, _, h, _ => by simp [good] at h
  | n + 1, .tup l, v, h, r => by
    simp only [Rep] at r
    simp only [good] at h
    obtain ⟨a, vs, rfl, h1, h2⟩ := r
    exact .tup (.inl (.inl h1)) (goods_dp n l vs h h2)
  | n + 1, .lst l, v, h, r => by
    simp only [Rep] at r
    simp only [good] at h
    obtain ⟨a, vs, rfl, h1, h2⟩ := r
    exact .lst (.of h1) (goods_dp n l vs h h2)
  | n, .dic _ _ _, _, h, _ => by cases n <;> simp [good] at h
  | n, .scr _, _, h, _ => by cases n <;> simp [good] at h
  | n, .obj _ _ _, _, h, _ => by cases n <;> simp [good] at h
  | n, .exv _ _ _, _, h, _ => by cases n <;> simp [good] at h
  | n, .fn _, _, h, _ => by cases n <;> simp [good] at h
theorem goods_dp {G : Glob} {H : Hp} : ∀ (n : Nat) (l : List D) (vs : List V), goods n l = true → Reps G H l vs → DpAll G.K H vs (toPys l)
  | n, [], vs, _, r => by rw [r.nil_inv]; exact .nil
  | n, x :: xs, vs, h, r => by
    have h' : good n x = true ∧ goods n xs = true := by cases n <;> simpa only [goods, Bool.and_eq_true] using h
    obtain ⟨v, q, rfl, r1, r2⟩ := r.cons_inv
    exact .cons (good_dp n x v h'.1 r1) (goods_dp n xs q h'.2 r2)
end
mutual
theorem beq_eqv : ∀ (n m : Nat) (a b : D), good n a = true → good m b = true → PyData.eqv (toPy a) (toPy b) = beq a b
  | n, m, .non, b, ha, hb => by cases b <;> first | rfl | (exfalso; cases m <;> simp [good] at hb)
  | n, m, .bl x, b, ha, hb => by cases b <;> first | rfl | (exfalso; cases m <;> simp [good] at hb)
  | n, m, .int x, b, ha, hb => by cases b <;> first | rfl | (exfalso; cases m <;> simp [good] at hb)
  | n, m, .str x, b, ha, hb => by cases b <;> first | rfl | (exfalso; cases m <;> simp [good] at hb)
  | 0, _, .tup l, _, h, _ => by simp [good] at h
  | 0, _, .lst l, _, h, _ => by simp [good] at h
  | n + 1, m, .tup l, b, ha, hb => by
    cases b with
    | tup k =>
      cases m with
      | zero => simp [good] at hb
      | succ m =>
        simp only [good] at ha hb
        show PyData.eqvAll (toPys l) (toPys k) = beqs l k
        exact beqs_eqv n m l k ha hb
    | dic _ _ _ => cases m <;> simp [good] at hb
    | scr _ => cases m <;> simp [good] at hb
    | obj _ _ _ => cases m <;> simp [good] at hb
    | exv _ _ _ => cases m <;> simp [good] at hb
    | fn _ => cases m <;> simp [good] at hb
    | _ => rfl
  | n + 1, m, .lst l, b, ha, hb => by
    cases b with
    | lst k =>
      cases m with
      | zero => simp [good] at hb
      | succ m =>
        simp only [good] at ha hb
        show PyData.eqvAll (toPys l) (toPys k) = beqs l k
        exact beqs_eqv n m l k ha hb
    | dic _ _ _ => cases m <;> simp [good] at hb
    | scr _ => cases m <;> simp [good] at hb
    | obj _ _ _ => cases m <;> simp [good] at hb
    | exv _ _ _ => cases m <;> simp [good] at hb
    | fn _ => cases m <;> simp [good] at hb
    | _ => rfl
  | n, _, .dic _ _ _, _, h, _ => by cases n <;> simp [good] at h
  | n, _, .scr _, _, h, _ => by cases n <;> simp [good] at h
  | n, _, .obj _ _ _, _, h, _ => by cases n <;> simp [good] at h
  | n, _, .exv _ _ _, _, h, _ => by cases n <;> simp [good] at h
  | n, _, .fn _, _, h, _ => by cases n <;> simp [good] at h
theorem beqs_eqv : ∀ (n m : Nat) (a b : List D), goods n a = true → goods m b = true → PyData.eqvAll (toPys a) (toPys b) = beqs a b
  | n, m, [], [], _, _ => rfl
  | n, m, [], _ :: _, _, _ => rfl
  | n, m, _ :: _, [], _, _ => rfl
  | n, m, x :: xs, y :: ys, ha, hb => by
    have h1 : good n x = true ∧ goods n xs = true := by cases n <;> simpa only [goods, Bool.and_eq_true] using ha
    have h2 : good m y = true ∧ goods m ys = true := by cases m <;> simpa only [goods, Bool.and_eq_true] using hb
    show (PyData.eqv (toPy x) (toPy y) && PyData.eqvAll (toPys xs) (toPys ys)) = (beq x y && beqs xs ys)
    rw [beq_eqv n m x y h1.1 h2.1, beqs_eqv n m xs ys h1.2 h2.2]
end
theorem any_eqv {n m : Nat} {a : D} (ha : good n a = true) : ∀ (l : List D), goods m l = true → ((toPys l).any fun z => PyData.eqv z (toPy a)) = l.any fun z => beq z a
  | [], _ => rfl
  | x :: xs, h => by
    have h' : good m x = true ∧ goods m xs = true := by cases m <;> simpa only [goods, Bool.and_eq_true] using h
    show (PyData.eqv (toPy x) (toPy a) || (toPys xs).any fun z => PyData.eqv z (toPy a)) = (beq x a || xs.any fun z => beq z a)
    rw [beq_eqv m n x a h'.1 ha, any_eqv ha xs h'.2]

/-! ### a value as an operand; a new list -/
def Val (G : Glob) (P H : Hp) (d : D) (v : V) : Prop := Rep G P d v ∨ ∃ p, v = .ref p ∧ OwnAt G P H p d
def FreshAt (G : Glob) (H P' H' : Hp) (d : D) (v : V) : Prop := ∃ p, v = .ref p ∧ H p = none ∧ OwnAt G P' H' p d
def ResD (G : Glob) (H P' H' : Hp) (d : D) (v : V) : Prop := match d with
  | .lst _ => FreshAt G H P' H' d v
  | _ => Rep G P' d v
section
variable {G : Glob} {P H P' H' : Hp} {d : D} {v : V}
theorem Val.rep (s : Same P H) (hd : nd d = true) (h : Val G P H d v) : Rep G H d v := by
  rcases h with h | ⟨p, rfl, h⟩
  · exact h.mono s
  · exact h.rep s hd
theorem Val.grow (h : Val G P H d v) (g : Gr P H P' H') : Val G P' H' d v := by
  rcases h with h | ⟨p, rfl, h⟩
  · exact .inl (h.mono g.pp)
  · exact .inr ⟨p, rfl, h.grow g⟩
theorem Val.int {i : Int} (h : Val G P H (.int i) v) : v = .int i := by
  rcases h with h | ⟨p, rfl, _, o, _, c⟩
  · simpa only [Rep] using h
  · cases o <;> simp only [Cont] at c
theorem Val.bl {i : Bool} (h : Val G P H (.bl i) v) : v = .bl i := by
  rcases h with h | ⟨p, rfl, _, o, _, c⟩
  · simpa only [Rep] using h
  · cases o <;> simp only [Cont] at c
theorem Val.str {i : Str} (h : Val G P H (.str i) v) : v = .str i := by
  rcases h with h | ⟨p, rfl, _, o, _, c⟩
  · simpa only [Rep] using h
  · cases o <;> simp only [Cont] at c
theorem Val.non (h : Val G P H .non v) : v = .non := by
  rcases h with h | ⟨p, rfl, _, o, _, c⟩
  · simpa only [Rep] using h
  · cases o <;> simp only [Cont] at c
theorem Val.lst (s : Same P H) {l : List D} (h : Val G P H (.lst l) v) : ∃ a vs, v = .ref a ∧ H a = some (.lst vs) ∧ Reps G P l vs := by
  rcases h with h | ⟨p, rfl, _, o, e, c⟩
  · simp only [Rep] at h
    obtain ⟨a, vs, rfl, h1, h2⟩ := h
    exact ⟨a, vs, rfl, s _ _ h1, h2⟩
  · cases o <;> simp only [Cont] at c
    exact ⟨p, _, rfl, e, c⟩
theorem Val.scr (s : Same P H) {l : List D} (h : Val G P H (.scr l) v) : ∃ a vs, v = .ref a ∧ SqL G.K H a vs ∧ Reps G P l vs := by
  rcases h with h | ⟨p, rfl, _, o, e, c⟩
  · simp only [Rep] at h
    obtain ⟨a, vs, rfl, h1, h2⟩ := h
    exact ⟨a, vs, rfl, Same.seq s h1, h2⟩
  · cases o <;> simp only [Cont] at c
theorem Val.tup (s : Same P H) {l : List D} (h : Val G P H (.tup l) v) : ∃ a vs, v = .ref a ∧ SqT G.K P a vs ∧ SqT G.K H a vs ∧ Reps G P l vs := by
  rcases h with h | ⟨p, rfl, _, o, e, c⟩
  · simp only [Rep] at h
    obtain ⟨a, vs, rfl, h1, h2⟩ := h
    exact ⟨a, vs, rfl, .inl (.inl h1), .inl (.inl (s _ _ h1)), h2⟩
  · cases o <;> simp only [Cont] at c
theorem Val.tupX (s : Same P H) {l : List D} (h : Val G P H (.tup l) v) : ∃ a vs, v = .ref a ∧ P a = some (.tup vs) ∧ SqT G.K H a vs ∧ Reps G P l vs := by
  rcases h with h | ⟨p, rfl, _, o, e, c⟩
  · simp only [Rep] at h
    obtain ⟨a, vs, rfl, h1, h2⟩ := h
    exact ⟨a, vs, rfl, h1, .inl (.inl (s _ _ h1)), h2⟩
  · cases o <;> simp only [Cont] at c
theorem Rep.tup_laid {p : Addr} {l : List D} {vs : List V} (r : Reps G P l vs) (h : P p = none) : Rep G (upd P p (.tup vs)) (.tup l) (.ref p) := by
  simp only [Rep]
  exact ⟨p, vs, rfl, upd_same, r.mono (same_new h)⟩
theorem FreshAt.laid {p : Addr} {l : List D} {vs : List V} (s : Same P H) (r : Reps G P l vs) (h : H p = none) : FreshAt G H P (upd H p (.lst vs)) (.lst l) (.ref p) :=
  ⟨p, rfl, h, s.free h, _, upd_same, r⟩
end
theorem cut_map {α β : Type} (f : α → β) (xs : List α) (lo hi : Option Int) : cut (xs.map f) lo hi = (cut xs lo hi).map f := by
  unfold cut
  rw [List.length_map, List.map_take, List.map_drop]
theorem Reps.cut {G : Glob} {H : Hp} {ds : List D} {vs : List V} (h : Reps G H ds vs) (lo hi : Option Int) : Reps G H (M.cut ds lo hi) (cutV vs lo hi) := by
  unfold M.cut cutV
  rw [h.length]
  exact (h.drop _).take _
theorem lim_eq : LIM = sizeLine := rfl

/-! ### operators -/
def opOf : BOp → Operator
  | .add => .Add
  | .sub => .Sub
  | .mul => .Mult
  | .fdiv => .FloorDiv
  | .mod => .Mod
  | .pow => .Pow
def rOf (K : PySem.W.Frag) : BOp → R2
  | .add => fun x y H Q => rI0 (fun i j => .int (i + j)) x y H Q ∨ rCat x y H Q ∨ rCatA K x y H Q ∨ (∃ i j, x = .str i ∧ y = .str j ∧ i.length + j.length ≤ sizeLine ∧ Q (.str (i ++ j)) H)
  | .sub => rI0 (fun i j => .int (i - j))
  | .mul => fun x y H Q => rI CMul (fun i j => .int (i * j)) x y H Q ∨ rRep x y H Q ∨ rRepT K x y H Q
  | .fdiv => rI CDiv (fun i j => .int (i / j))
  | .mod => rI (fun _ j => 0 < j) (fun i j => .int (i % j))
  | .pow => rI CPow (fun i j => .int (i ^ j.toNat))
theorem op_of {X : Cx} : ∀ op : BOp, OpR X (binaryOp (opOf op)) (rOf X.K op)
  | .add => OpR.or op_add (OpR.or op_cat (OpR.or op_catA op_add_str))
  | .sub => op_sub
  | .mul => OpR.or op_mul (OpR.or op_rep op_repT)
  | .fdiv => op_fdiv
  | .mod => op_mod
  | .pow => op_pow
theorem rOf_ok {G : Glob} {P H : Hp} {op : BOp} {x y d : D} {v u : V} {Q : VK} (s : Same P H) (hx : Val G P H x v) (hy : Val G P H y u) (e : binD op x y = .ok d)
    (q : ∀ w P' H', Gr P H P' H' → ResD G H P' H' d w → Q w H') : rOf G.K op v u H Q := by
  have qi : ∀ i, d = .int i → Q (.int i) H := fun i h => q _ P H (Gr.refl s) (by rw [h]; show Rep G P (.int i) _; simp only [Rep])
  unfold binD at e
  split at e
  · rename_i a b
    cases e
    rw [hx.int, hy.int]
    exact .inl ⟨a, b, rfl, rfl, qi _ rfl⟩
  · rename_i a b
    cases e
    rw [hx.int, hy.int]
    exact ⟨a, b, rfl, rfl, qi _ rfl⟩
  · rename_i a b
    split at e
    · rename_i hm
      cases e
      rw [hx.int, hy.int]
      refine .inl ⟨a, b, rfl, rfl, ?_, qi _ rfl⟩
      unfold mulOk at hm
      simp only [Bool.or_eq_true, Bool.and_eq_true, decide_eq_true_eq] at hm
      exact hm
    · cases e
  · rename_i a b
    split at e
    · rename_i hm
      cases e
      rw [hx.int, hy.int]
      exact ⟨a, b, rfl, rfl, hm, qi _ rfl⟩
    · cases e
  · rename_i a b
    split at e
    · rename_i hm
      cases e
      rw [hx.int, hy.int]
      exact ⟨a, b, rfl, rfl, hm, qi _ rfl⟩
    · cases e
  · rename_i a b
    split at e
    · rename_i hm
      cases e
      rw [hx.int, hy.int]
      refine ⟨a, b, rfl, rfl, ⟨hm.1, by omega, ?_⟩, qi _ rfl⟩
      exact Nat.lt_trans hm.2.2 (by decide)
    · cases e
  · rename_i a b
    split at e
    · rename_i hm
      cases e
      obtain ⟨p, vs, rfl, h1, h2⟩ := hx.lst s
      obtain ⟨p', us, rfl, h3, h4⟩ := hy.lst s
      refine .inr (.inl ⟨p, p', vs, us, rfl, rfl, h1, h3, ?_, fun n hn => ?_⟩)
      · rw [h2.length, h4.length]; exact hm
      · exact q _ P _ (Gr.made s hn) (FreshAt.laid s (h2.append h4) hn)
    · cases e
  · rename_i a b
    split at e
    · rename_i hm
      cases e
      obtain ⟨p, vs, rfl, h0, h1, h2⟩ := hx.tupX s
      obtain ⟨p', us, rfl, h0', h3, h4⟩ := hy.tupX s
      refine .inr (.inr (.inl ⟨p, p', vs, us, rfl, rfl, h1, h3, ?_, fun hv => ?_, fun _ hu => ?_, fun _ _ n hn => ?_⟩))
      · rw [h2.length, h4.length]; exact hm
      · have z : a = [] := by
          have := h2.length
          rw [hv] at this
          exact List.length_eq_zero_iff.mp this.symm
        rw [z] at q
        refine q _ P H (Gr.refl s) ?_
        show Rep G P (.tup ([] ++ b)) _
        simp only [Rep, List.nil_append]
        exact ⟨p', us, rfl, h0', h4⟩
      · have z : b = [] := by
          have := h4.length
          rw [hu] at this
          exact List.length_eq_zero_iff.mp this.symm
        rw [z] at q
        refine q _ P H (Gr.refl s) ?_
        show Rep G P (.tup (a ++ [])) _
        simp only [Rep, List.append_nil]
        exact ⟨p, vs, rfl, h0, h2⟩
      · exact q _ _ _ (Gr.laid s hn) (Rep.tup_laid (h2.append h4) (s.free hn))
    · cases e
  · rename_i a b
    split at e
    · rename_i hm
      cases e
      rw [hx.str, hy.str]
      exact .inr (.inr (.inr ⟨a, b, rfl, rfl, hm, q _ P H (Gr.refl s) (by show Rep G P (.str _) _; simp only [Rep])⟩))
    · cases e
  · rename_i a k
    split at e
    · rename_i hm
      cases e
      obtain ⟨p, vs, rfl, h1, h2⟩ := hx.lst s
      rw [hy.int]
      refine .inr (.inl ⟨p, k, vs, rfl, rfl, h1, by omega, by omega, ?_, fun n hn => ?_⟩)
      · rw [h2.length]; exact hm.1
      · exact q _ P _ (Gr.made s hn) (FreshAt.laid s (h2.rep _ _ k.toNat) hn)
    · cases e
  · rename_i a k
    split at e
    · rename_i hm
      cases e
      obtain ⟨p, vs, rfl, _, h1, h2⟩ := hx.tup s
      rw [hy.int]
      refine .inr (.inr ⟨p, k, vs, rfl, rfl, h1, fun z => ?_, hm.2.2.1, hm.2.2.2, ?_, fun n hn => ?_⟩)
      · have := h2.length
        rw [z] at this
        have h0 := hm.1
        rw [← this] at h0
        exact absurd h0 (by decide)
      · rw [h2.length]; exact hm.2.1
      · exact q _ _ _ (Gr.laid s hn) (Rep.tup_laid (h2.rep _ _ k.toNat) (s.free hn))
    · cases e
  · cases e

/-! ### dicts -/
theorem beq_key : ∀ (a b : Key), beq (keyD a) (keyD b) = decide (a = b)
  | .inl i, .inl j => by
    show (i == j) = _
    rw [Bool.eq_iff_iff]
    simp
  | .inr x, .inr y => by
    show (x == y) = _
    rw [Bool.eq_iff_iff]
    simp
  | .inl i, .inr y => rfl
  | .inr x, .inl j => rfl
theorem beqs_key : ∀ (l m : List Key), beqs (l.map keyD) (m.map keyD) = decide (l = m)
  | [], [] => rfl
  | [], _ :: _ => rfl
  | _ :: _, [] => rfl
  | x :: l, y :: m => by
    show (beq (keyD x) (keyD y) && beqs (l.map keyD) (m.map keyD)) = _
    rw [beq_key, beqs_key l m, Bool.eq_iff_iff]
    simp
def encT (l : List Key) : D := .tup (l.map keyD)
theorem beq_encT (l m : List Key) : beq (encT l) (encT m) = decide (l = m) := beqs_key l m
section
variable {κ : Type} [DecidableEq κ] {G : Glob} {P : Hp} {enc : κ → D}
theorem ent_mem (hi : ∀ a b, beq (enc a) (enc b) = decide (a = b)) (k : κ) : ∀ (kvs : List (κ × V)), memK (kvs.map fun p => enc p.1) (enc k) = kvs.any fun kv => decide (kv.1 = k)
  | [] => rfl
  | p :: r => by
    show (beq (enc p.1) (enc k) || memK (r.map fun p => enc p.1) (enc k)) = _
    rw [hi, ent_mem hi k r]
    rfl
theorem ent_look (hi : ∀ a b, beq (enc a) (enc b) = decide (a = b)) (k : κ) {d : D} : ∀ (kvs : List (κ × V)) (ds : List D), Reps G P ds (kvs.map (·.2)) → dlook (kvs.map fun p => enc p.1) ds (enc k) = some d → ∃ w, valV kvs k = some w ∧ Rep G P d w
  | [], _, _, e => by cases e
  | p :: r, ds, h, e => by
    cases ds with
    | nil => cases e
    | cons x xs =>
      obtain ⟨v, u, e1, h1, h2⟩ := h.cons_inv
      rw [List.map_cons] at e1
      injection e1 with e1 e2
      rw [List.map_cons] at e
      unfold dlook at e
      rw [hi] at e
      by_cases q : p.1 = k
      · rw [decide_eq_true q, if_pos rfl] at e
        cases e
        rw [valV_pos q]
        exact ⟨_, rfl, by rw [e1]; exact h1⟩
      · rw [decide_eq_false q, if_neg Bool.false_ne_true] at e
        rw [valV_neg q]
        exact ent_look hi k r xs (by rw [e2]; exact h2) e
theorem ent_set (hi : ∀ a b, beq (enc a) (enc b) = decide (a = b)) (k : κ) {d : D} {v : V} (hd : Rep G P d v) : ∀ (kvs : List (κ × V)) (ds : List D), Reps G P ds (kvs.map (·.2)) →
    Reps G P (dset (kvs.map fun p => enc p.1) ds (enc k) d) ((kvs.map fun kv => if kv.1 = k then (kv.1, v) else kv).map (·.2))
  | [], ds, h => by
    rw [h.length.symm.trans rfl |> List.length_eq_zero_iff.mp |> fun (z : ds = []) => z]
    exact Reps.nil
  | p :: r, ds, h => by
    cases ds with
    | nil => have := h.length; simp at this
    | cons x xs =>
      obtain ⟨u, us, e1, h1, h2⟩ := h.cons_inv
      rw [List.map_cons] at e1
      injection e1 with e1 e2
      rw [List.map_cons, List.map_cons, List.map_cons]
      unfold dset
      rw [hi]
      refine Reps.cons ?_ (ent_set hi k hd r xs (by rw [e2]; exact h2))
      by_cases q : p.1 = k
      · rw [decide_eq_true q, if_pos rfl, if_pos q]; exact hd
      · rw [decide_eq_false q, if_neg Bool.false_ne_true, if_neg q, e1]; exact h1
theorem ent_keys (k : κ) (v : V) (kvs : List (κ × V)) : (kvs.map fun kv => if kv.1 = k then (kv.1, v) else kv).map (fun p => enc p.1) = kvs.map fun p => enc p.1 := by
  rw [List.map_map]
  refine List.map_congr_left fun p _ => ?_
  show enc (if p.1 = k then (p.1, v) else p).1 = _
  split <;> rfl
theorem ent_put (hi : ∀ a b, beq (enc a) (enc b) = decide (a = b)) (k : κ) {d : D} {v : V} (hd : Rep G P d v) (kvs : List (κ × V)) (ds : List D) (h : Reps G P ds (kvs.map (·.2))) :
    (memK (kvs.map fun p => enc p.1) (enc k) = true → (kvs.map fun p => enc p.1) = (putK kvs k v).map (fun p => enc p.1) ∧ Reps G P (dset (kvs.map fun p => enc p.1) ds (enc k) d) ((putK kvs k v).map (·.2))) ∧
    (memK (kvs.map fun p => enc p.1) (enc k) = false → (kvs.map fun p => enc p.1) ++ [enc k] = (putK kvs k v).map (fun p => enc p.1) ∧ Reps G P (ds ++ [d]) ((putK kvs k v).map (·.2))) := by
  rw [ent_mem hi]
  unfold putK
  refine ⟨fun e => ?_, fun e => ?_⟩
  · rw [if_pos e]
    exact ⟨(ent_keys k v kvs).symm, ent_set hi k hd kvs ds h⟩
  · rw [if_neg (by rw [e]; exact Bool.false_ne_true), List.map_append, List.map_append]
    exact ⟨rfl, h.append (Reps.cons hd Reps.nil)⟩
end
theorem ent_drop {κ : Type} [DecidableEq κ] {enc : κ → D} {G : Glob} {P : Hp} (hi : ∀ a b, beq (enc a) (enc b) = decide (a = b)) (k : κ) : ∀ (kvs : List (κ × V)) (ds : List D), Reps G P ds (kvs.map (·.2)) →
    (dropD (kvs.map fun p => enc p.1) ds (enc k)).1 = (dropK kvs k).map (fun p => enc p.1) ∧ Reps G P (dropD (kvs.map fun p => enc p.1) ds (enc k)).2 ((dropK kvs k).map (·.2))
  | [], ds, h => by
    rw [show ds = [] from List.length_eq_zero_iff.mp (h.length.symm.trans rfl)]
    exact ⟨rfl, Reps.nil⟩
  | p :: kvs, ds, h => by
    cases ds with
    | nil => have := h.length; simp at this
    | cons d ds =>
      obtain ⟨v, r, e, h1, h2⟩ := h.cons_inv
      rw [List.map_cons, List.cons.injEq] at e
      obtain ⟨e1, e2⟩ := e
      rw [← e2] at h2
      obtain ⟨i1, i2⟩ := ent_drop hi k kvs ds h2
      rw [List.map_cons]
      unfold dropD dropK
      rw [hi, List.filter_cons]
      by_cases hk : p.1 = k
      · rw [if_pos (decide_eq_true hk), if_neg (by simp [hk])]
        exact ⟨i1, i2⟩
      · rw [if_neg (by simp [hk]), if_pos (by simp [hk])]
        refine ⟨?_, ?_⟩
        · show _ :: _ = _ :: _
          rw [i1]; rfl
        · rw [List.map_cons, e1]
          exact Reps.cons h1 i2
theorem val_any {κ : Type} [DecidableEq κ] {k : κ} : ∀ {kvs : List (κ × V)}, (kvs.any fun kv => decide (kv.1 = k)) = true → ∃ v, valV kvs k = some v
  | [], h => by cases h
  | p :: kvs, h => by
    by_cases hk : p.1 = k
    · exact ⟨_, valV_pos hk⟩
    · rw [List.any_cons, decide_eq_false hk, Bool.false_or] at h
      rw [valV_neg hk]
      exact val_any h
theorem key0_inv {d : D} (h : keyOk.keyOk0 d = true) : ∃ k : Key, d = keyD k := by
  cases d <;> first | exact ⟨.inl _, rfl⟩ | exact ⟨.inr _, rfl⟩ | cases h
theorem keys_inv : ∀ {l : List D}, l.all keyOk.keyOk0 = true → ∃ ks : List Key, l = ks.map keyD
  | [], _ => ⟨[], rfl⟩
  | d :: l, h => by
    rw [List.all_cons, Bool.and_eq_true] at h
    obtain ⟨k, rfl⟩ := key0_inv h.1
    obtain ⟨ks, rfl⟩ := keys_inv h.2
    exact ⟨k :: ks, rfl⟩
theorem rep_key {G : Glob} {P : Hp} {k : Key} {v : V} (h : Rep G P (keyD k) v) : v = kV k := by
  cases k with
  | inl i => simp only [keyD, Rep] at h; exact h
  | inr i => simp only [keyD, Rep] at h; exact h
theorem reps_key {G : Glob} {P : Hp} : ∀ {ks : List Key} {vs : List V}, Reps G P (ks.map keyD) vs → vs = ks.map kV
  | [], vs, h => h.nil_inv
  | k :: ks, vs, h => by
    obtain ⟨v, r, rfl, h1, h2⟩ := Reps.cons_inv (d := keyD k) (ds := ks.map keyD) h
    rw [rep_key h1, reps_key h2]; rfl
section
variable {G : Glob} {P H : Hp}
theorem Val.key0 {k : Key} {v : V} (h : Val G P H (keyD k) v) : v = kV k := by
  cases k with
  | inl i => exact Val.int h
  | inr x => exact Val.str h
/-- a dict, as it stands -/
theorem good_nd {n : Nat} {d : D} (h : good n d = true) : nd d = true := by
  cases d <;> first | rfl | (cases n <;> simp [good] at h)
theorem Val.dic (s : Same P H) {t : Bool} {ks ds : List D} {v : V} (h : Val G P H (.dic t ks ds) v) : ∃ a, v = .ref a ∧ ((t = false ∧ ∃ kvs, Rd H a (.dK kvs) ∧ ks = kvs.map (fun p => keyD p.1) ∧ Reps G P ds (kvs.map (·.2))) ∨
    (t = true ∧ ∃ kvs, Rd H a (.dT kvs) ∧ ks = kvs.map (fun p => encT p.1) ∧ Reps G P ds (kvs.map (·.2)))) := by
  rcases h with h | ⟨p, rfl, _, o, e, c⟩
  · simp only [Rep] at h
    obtain ⟨a, od, rfl, ⟨h0, kvs, h1, h2, h3⟩ | ⟨h0, kvs, h1, h2, h3⟩⟩ := h
    · exact ⟨a, rfl, .inl ⟨h0, kvs, .inr ⟨od, s _ _ h1⟩, h2, h3⟩⟩
    · exact ⟨a, rfl, .inr ⟨h0, kvs, .inr ⟨od, s _ _ h1⟩, h2, h3⟩⟩
  · cases t <;> cases o <;> simp only [Cont] at c
    · exact ⟨p, rfl, .inl ⟨rfl, _, .inl e, c.1, c.2⟩⟩
    · exact ⟨p, rfl, .inr ⟨rfl, _, .inl e, c.1, c.2⟩⟩
theorem Val.isD (s : Same P H) {t : Bool} {ks ds : List D} {v : V} (h : Val G P H (.dic t ks ds) v) : ∃ a, v = .ref a ∧ IsD H a := by
  obtain ⟨a, rfl, ⟨_, kvs, h1, _⟩ | ⟨_, kvs, h1, _⟩⟩ := h.dic s
  · exact ⟨a, rfl, .inl ⟨kvs, h1⟩⟩
  · exact ⟨a, rfl, .inr ⟨kvs, h1⟩⟩
theorem ent_none {κ : Type} [DecidableEq κ] {G : Glob} {P : Hp} {enc : κ → D} (hi : ∀ a b, beq (enc a) (enc b) = decide (a = b)) (k : κ) : ∀ (kvs : List (κ × V)) (ds : List D), Reps G P ds (kvs.map (·.2)) → dlook (kvs.map fun p => enc p.1) ds (enc k) = none → valV kvs k = none
  | [], _, _, _ => rfl
  | p :: r, ds, h, e => by
    cases ds with
    | nil => have := h.length; simp at this
    | cons x xs =>
      obtain ⟨v, u, e1, h1, h2⟩ := h.cons_inv
      rw [List.map_cons] at e1
      injection e1 with e1 e2
      rw [List.map_cons] at e
      unfold dlook at e
      rw [hi] at e
      by_cases q : p.1 = k
      · rw [decide_eq_true q, if_pos rfl] at e
        cases e
      · rw [decide_eq_false q, if_neg Bool.false_ne_true] at e
        rw [valV_neg q]
        exact ent_none hi k r xs (by rw [e2]; exact h2) e
/-- what a dict holds at a key -/
theorem dget_of (s : Same P H) {t : Bool} {ks ds : List D} {k : D} {v u : V} (h : Val G P H (.dic t ks ds) v) (hk : Val G P H k u) (ok : keyOk t k = true) :
    ∃ a o, v = .ref a ∧ DGet H a u o ∧ o.isSome = memK ks k ∧ (∀ d, dlook ks ds k = some d → ∃ w, o = some w ∧ Rep G P d w) ∧ (dlook ks ds k = none → o = none) := by
  obtain ⟨a, rfl, ⟨rfl, kvs, h1, rfl, h3⟩ | ⟨rfl, kvs, h1, rfl, h3⟩⟩ := h.dic s
  · obtain ⟨κ, rfl⟩ : ∃ κ : Key, k = keyD κ := by
      cases k <;> first | exact ⟨.inl _, rfl⟩ | exact ⟨.inr _, rfl⟩ | cases ok
    rw [hk.key0]
    exact ⟨a, valV kvs κ, rfl, .inl ⟨kvs, κ, h1, rfl, rfl⟩, by rw [← valV_any, ent_mem beq_key], fun d e => ent_look beq_key κ kvs ds h3 e, fun e => ent_none beq_key κ kvs ds h3 e⟩
  · cases k with
    | tup l =>
      obtain ⟨κ, rfl⟩ := keys_inv ok
      obtain ⟨b, vs, rfl, h4, _, h5⟩ := hk.tupX s
      rw [reps_key h5] at h4
      exact ⟨a, valV kvs κ, rfl, .inr ⟨kvs, κ, b, h1, rfl, s _ _ h4, rfl⟩, by rw [← valV_any]; exact (ent_mem beq_encT κ kvs).symm, fun d e => ent_look beq_encT κ kvs ds h3 e, fun e => ent_none beq_encT κ kvs ds h3 e⟩
    | _ => cases ok
end
def rDIn : R2 := fun x y H Q => ∃ a o, y = .ref a ∧ DGet H a x o ∧ Q (.bl o.isSome) H
def rDNotIn : R2 := fun x y H Q => ∃ a o, y = .ref a ∧ DGet H a x o ∧ Q (.bl (!o.isSome)) H
theorem op_din {X : Cx} (hu : X.A.units + 65 < cLine) : OpR X (compareOp .In) rDIn := by
  intro pins s σ H x y v u Q I rx ry h
  obtain ⟨a, o, rfl, g, q⟩ := h
  cases ry
  exact d_in (by omega) I g rx fun s' J => ⟨.bl _, H, J, rfl, q⟩
theorem op_dnotin {X : Cx} (hu : X.A.units + 65 < cLine) : OpR X (compareOp .NotIn) rDNotIn := by
  intro pins s σ H x y v u Q I rx ry h
  obtain ⟨a, o, rfl, g, q⟩ := h
  cases ry
  exact d_notIn (by omega) I g rx fun s' J => ⟨.bl _, H, J, rfl, q⟩

/-! ### comparisons -/
def copOf : COp → CmpOp
  | .eq => .Eq
  | .ne => .NotEq
  | .lt => .Lt
  | .le => .LtE
  | .gt => .Gt
  | .ge => .GtE
  | .isin => .In
  | .notin => .NotIn
  | .isnt => .IsNot
def rInT (K : PySem.W.Frag) : R2 := fun x y H Q => ∃ d ds, Dp K H x d ∧ Dp K H y (.tuple ds) ∧ SeqAt.shaped d = true ∧ SeqAt.shaped (.tuple ds) = true ∧ Q (.bl (ds.any fun z => PyData.eqv z d)) H
def rNotInT (K : PySem.W.Frag) : R2 := fun x y H Q => ∃ d ds, Dp K H x d ∧ Dp K H y (.tuple ds) ∧ SeqAt.shaped d = true ∧ SeqAt.shaped (.tuple ds) = true ∧ Q (.bl (!ds.any fun z => PyData.eqv z d)) H
theorem room_inT {A : Around} {ds : List PyData} {d : PyData} (h : SeqAt.shaped d = true) (hu : A.units + 65 < cLine) : A.units + 1 + min (PyData.depthAll ds) d.depth < cLine := by
  have h1 := SeqAt.depth_of_shaped h
  have h2 : min (PyData.depthAll ds) d.depth ≤ d.depth := Nat.min_le_right _ _
  omega
theorem op_inT {X : Cx} (hu : X.A.units + 65 < cLine) : OpR X (compareOp .In) (rInT X.K) := by
  intro pins s σ H x y v u Q I rx ry h
  obtain ⟨d, ds, hd, he, sd, se, q⟩ := h
  obtain ⟨as, r1⟩ := Dp.reads I d x v hd rx
  obtain ⟨bs, r2⟩ := Dp.reads I (.tuple ds) y u he ry
  exact SeqAt.in_tuple_reads r2 r1 (SeqAt.canLay_of_shaped se) (SeqAt.canLay_of_shaped sd) (room_inT sd hu) ⟨.bl _, H, I, rfl, q⟩
theorem op_notInT {X : Cx} (hu : X.A.units + 65 < cLine) : OpR X (compareOp .NotIn) (rNotInT X.K) := by
  intro pins s σ H x y v u Q I rx ry h
  obtain ⟨d, ds, hd, he, sd, se, q⟩ := h
  obtain ⟨as, r1⟩ := Dp.reads I d x v hd rx
  obtain ⟨bs, r2⟩ := Dp.reads I (.tuple ds) y u he ry
  exact SeqAt.notIn_tuple_reads r2 r1 (SeqAt.canLay_of_shaped se) (SeqAt.canLay_of_shaped sd) (room_inT sd hu) ⟨.bl _, H, I, rfl, q⟩
def rCof (K : PySem.W.Frag) : COp → R2
  | .eq => rEqD K
  | .ne => rNeD K
  | .lt => rI0 (fun i j => .bl (decide (i < j)))
  | .le => rI0 (fun i j => .bl (decide (i ≤ j)))
  | .gt => rI0 (fun i j => .bl (decide (j < i)))
  | .ge => rI0 (fun i j => .bl (decide (j ≤ i)))
  | .isin => fun x y H Q => rInD K x y H Q ∨ rInT K x y H Q ∨ rDIn x y H Q
  | .notin => fun x y H Q => rNotInD K x y H Q ∨ rNotInT K x y H Q ∨ rDNotIn x y H Q
  | .isnt => rNotB
theorem cop_of {X : Cx} (hu : X.A.units + 65 < cLine) : ∀ op : COp, OpR X (compareOp (copOf op)) (rCof X.K op)
  | .eq => op_eqD (by omega)
  | .ne => op_neD (by omega)
  | .lt => op_lt
  | .le => op_le
  | .gt => op_gt
  | .ge => op_ge
  | .isin => OpR.or (op_inD hu) (OpR.or (op_inT hu) (op_din hu))
  | .notin => OpR.or (op_notInD hu) (OpR.or (op_notInT hu) (op_dnotin hu))
  | .isnt => op_notBl
theorem eqD_ok {G : Glob} {P H : Hp} {x y : D} {c : Bool} {v u : V} (s : Same P H) (hx : Val G P H x v) (hy : Val G P H y u) (e : eqD x y = .ok c) :
    Dp G.K H v (toPy x) ∧ Dp G.K H u (toPy y) ∧ SeqAt.shaped (toPy x) = true ∧ SeqAt.shaped (toPy y) = true ∧ PyData.eqv (toPy x) (toPy y) = c := by
  unfold eqD at e
  split at e
  · rename_i h
    rw [Bool.and_eq_true] at h
    cases e
    exact ⟨good_dp 60 x v h.1 (hx.rep s (good_nd h.1)), good_dp 60 y u h.2 (hy.rep s (good_nd h.2)), good_shaped h.1 (by decide), good_shaped h.2 (by decide), beq_eqv 60 60 x y h.1 h.2⟩
  · cases e
theorem inD_ok {G : Glob} {P H : Hp} {x : D} {l : List D} {c : Bool} {v u : V} (s : Same P H) (hx : Val G P H x v) (e : inD x l = .ok c) :
    Dp G.K H v (toPy x) ∧ SeqAt.shaped (toPy x) = true ∧ goods 60 l = true ∧ ((toPys l).any fun z => PyData.eqv z (toPy x)) = c := by
  unfold inD at e
  split at e
  · rename_i h
    rw [Bool.and_eq_true] at h
    cases e
    exact ⟨good_dp 60 x v h.1 (hx.rep s (good_nd h.1)), good_shaped h.1 (by decide), h.2, any_eqv h.1 l h.2⟩
  · cases e
theorem bind_not {r : R Bool} {c : Bool} (e : (r.bind fun c => R.ok (!c)) = .ok c) : r = .ok (!c) := by
  cases r with
  | ok a => cases e; rw [Bool.not_not]
  | err _ _ => cases e
  | bad => cases e
theorem rCof_ok {G : Glob} {P H : Hp} {op : COp} {x y : D} {c : Bool} {v u : V} {Q : VK} (s : Same P H) (hx : Val G P H x v) (hy : Val G P H y u) (e : cmpD op x y = .ok c)
    (q : Q (.bl c) H) : rCof G.K op v u H Q := by
  unfold cmpD at e
  split at e
  · obtain ⟨h1, h2, h3, h4, h5⟩ := eqD_ok s hx hy e
    exact ⟨_, _, h1, h2, h3, h4, by rw [h5]; exact q⟩
  · obtain ⟨h1, h2, h3, h4, h5⟩ := eqD_ok s hx hy (bind_not e)
    exact ⟨_, _, h1, h2, h3, h4, by rw [h5, Bool.not_not]; exact q⟩
  · cases e; rw [hx.int, hy.int]; exact ⟨_, _, rfl, rfl, q⟩
  · cases e; rw [hx.int, hy.int]; exact ⟨_, _, rfl, rfl, q⟩
  · cases e; rw [hx.int, hy.int]; exact ⟨_, _, rfl, rfl, q⟩
  · cases e; rw [hx.int, hy.int]; exact ⟨_, _, rfl, rfl, q⟩
  · obtain ⟨h1, h2, h3, h4⟩ := inD_ok (u := u) s hx e
    obtain ⟨a, vs, rfl, h5, h6⟩ := hy.lst s
    exact .inl ⟨_, _, h1, .lst (.of h5) (goods_dp 60 _ _ h3 (h6.mono s)), h2, good_shaped (n := 61) (d := .lst _) (by simpa only [good] using h3) (by decide), by rw [h4]; exact q⟩
  · obtain ⟨h1, h2, h3, h4⟩ := inD_ok (u := u) s hx (bind_not e)
    obtain ⟨a, vs, rfl, h5, h6⟩ := hy.lst s
    exact .inl ⟨_, _, h1, .lst (.of h5) (goods_dp 60 _ _ h3 (h6.mono s)), h2, good_shaped (n := 61) (d := .lst _) (by simpa only [good] using h3) (by decide), by rw [h4, Bool.not_not]; exact q⟩
  · obtain ⟨h1, h2, h3, h4⟩ := inD_ok (u := u) s hx e
    obtain ⟨a, vs, rfl, h0, h5, h6⟩ := hy.tup s
    exact .inr (.inl ⟨_, _, h1, .tup h5 (goods_dp 60 _ _ h3 (h6.mono s)), h2, good_shaped (n := 61) (d := .tup _) (by simpa only [good] using h3) (by decide), by rw [h4]; exact q⟩)
  · obtain ⟨h1, h2, h3, h4⟩ := inD_ok (u := u) s hx (bind_not e)
    obtain ⟨a, vs, rfl, h0, h5, h6⟩ := hy.tup s
    exact .inr (.inl ⟨_, _, h1, .tup h5 (goods_dp 60 _ _ h3 (h6.mono s)), h2, good_shaped (n := 61) (d := .tup _) (by simpa only [good] using h3) (by decide), by rw [h4, Bool.not_not]; exact q⟩)
  · split at e
    · rename_i hk
      cases e
      obtain ⟨a, o, rfl, g, e1, _⟩ := dget_of s hy hx hk
      exact .inr (.inr ⟨a, o, rfl, g, by rw [e1]; exact q⟩)
    · cases e
  · split at e
    · rename_i hk
      cases e
      obtain ⟨a, o, rfl, g, e1, _⟩ := dget_of s hy hx hk
      exact .inr (.inr ⟨a, o, rfl, g, by rw [e1]; exact q⟩)
    · cases e
  · cases e; rw [hx.bl, hy.bl]; exact ⟨_, _, rfl, rfl, q⟩
  · cases e
end M
set_option Elab.async false
set_option linter.all false
set_option maxRecDepth 100000
set_option maxHeartbeats 2000000
/-! M, part S: sorted of ints and of tuples of ints, out of a list or a tuple, any number of them. -/
namespace M
open PySem L2 PySem.Spec PyProof.Rows

/-! ### the order of tuples -/
theorem lexLt_asym : ∀ a b : List Int, HT.lexLt a b = true → HT.lexLt b a = false
  | [], [], h => by simp [HT.lexLt] at h
  | [], _ :: _, _ => rfl
  | _ :: _, [], h => by simp [HT.lexLt] at h
  | x :: xs, y :: ys, h => by
    rw [HT.lexLt_cons] at h ⊢
    by_cases e : x = y
    · rw [if_pos e] at h; rw [if_pos e.symm]; exact lexLt_asym xs ys h
    · rw [if_neg e] at h; rw [if_neg (Ne.symm e)]
      have := of_decide_eq_true h
      exact decide_eq_false (by omega)
theorem lexLt_tr : ∀ a b c : List Int, HT.lexLt b a = false → HT.lexLt c b = false → HT.lexLt c a = false
  | [], _, [], _, _ => rfl
  | [], [], _ :: _, h1, h2 => by simp [HT.lexLt]
  | [], _ :: _, _ :: _, h1, h2 => by simp [HT.lexLt]
  | _ :: _, [], _, h1, _ => by simp [HT.lexLt] at h1
  | _ :: _, _ :: _, [], _, h2 => by simp [HT.lexLt] at h2
  | x :: xs, y :: ys, z :: zs, h1, h2 => by
    rw [HT.lexLt_cons] at h1 h2 ⊢
    by_cases e1 : y = x
    · rw [if_pos e1] at h1
      by_cases e2 : z = y
      · rw [if_pos e2] at h2; rw [if_pos (e2.trans e1)]; exact lexLt_tr xs ys zs h1 h2
      · rw [if_neg e2] at h2; rw [if_neg (by omega)]
        have := of_decide_eq_false h2
        exact decide_eq_false (by omega)
    · rw [if_neg e1] at h1
      have h1 := of_decide_eq_false h1
      by_cases e2 : z = y
      · rw [if_neg (by omega)]
        exact decide_eq_false (by omega)
      · rw [if_neg e2] at h2
        have h2 := of_decide_eq_false h2
        rw [if_neg (by omega)]
        exact decide_eq_false (by omega)
theorem lexLt_anti : ∀ a b : List Int, HT.lexLt a b = false → HT.lexLt b a = false → a = b
  | [], [], _, _ => rfl
  | [], _ :: _, h, _ => by simp [HT.lexLt] at h
  | _ :: _, [], _, h => by simp [HT.lexLt] at h
  | x :: xs, y :: ys, h1, h2 => by
    rw [HT.lexLt_cons] at h1 h2
    by_cases e : x = y
    · rw [if_pos e] at h1; rw [if_pos e.symm] at h2
      rw [e, lexLt_anti xs ys h1 h2]
    · rw [if_neg e] at h1; rw [if_neg (Ne.symm e)] at h2
      have h1 := of_decide_eq_false h1
      have h2 := of_decide_eq_false h2
      omega
theorem swo_lexK {α : Type} (k : α → List Int) : SrtO.Swo fun v u => HT.lexLt (k v) (k u) :=
  ⟨fun _ _ h => lexLt_asym _ _ h, fun _ _ _ h1 h2 => lexLt_tr _ _ _ h1 h2⟩
theorem perm_sorted_eq {α : Type} {le : α → α → Prop} (anti : ∀ a b, le a b → le b a → a = b) : ∀ {l m : List α}, l.Perm m → l.Pairwise le → m.Pairwise le → l = m
  | [], m, p, _, _ => (List.nil_perm.mp p).symm
  | a :: l, [], p, _, _ => by have := p.length_eq; simp at this
  | a :: l, b :: m, p, h1, h2 => by
    have e : a = b := by
      rw [List.pairwise_cons] at h1 h2
      have ha : a ∈ b :: m := p.mem_iff.mp List.mem_cons_self
      have hb : b ∈ a :: l := p.mem_iff.mpr List.mem_cons_self
      rcases List.mem_cons.mp ha with e | ha
      · exact e
      · rcases List.mem_cons.mp hb with e | hb
        · exact e.symm
        · exact anti _ _ (h1.1 b hb) (h2.1 a ha)
    subst e
    rw [perm_sorted_eq anti (List.Perm.cons_inv p) (List.pairwise_cons.mp h1).2 (List.pairwise_cons.mp h2).2]
theorem lexLe_total (a b : List Int) : (lexLe a b || lexLe b a) = true := by
  unfold lexLe
  cases h : HT.lexLt b a with
  | false => rfl
  | true => rw [lexLt_asym _ _ h]; rfl
theorem lexLe_trans (a b c : List Int) (h1 : lexLe a b = true) (h2 : lexLe b c = true) : lexLe a c = true := by
  unfold lexLe at *
  simp only [Bool.not_eq_true'] at *
  exact lexLt_tr a b c h1 h2
theorem sortT_sorted (l : List (List Int)) : (sortT l).Pairwise fun a b => lexLe a b = true := List.pairwise_mergeSort (le := lexLe) lexLe_trans lexLe_total l
theorem sortT_perm (l : List (List Int)) : (sortT l).Perm l := List.mergeSort_perm l lexLe
theorem sortT_eq {l m : List (List Int)} (p : m.Perm l) (h : m.Pairwise fun a b => lexLe a b = true) : m = sortT l :=
  perm_sorted_eq (fun a b h1 h2 => by
    unfold lexLe at h1 h2
    simp only [Bool.not_eq_true'] at h1 h2
    exact lexLt_anti a b h2 h1) (p.trans (sortT_perm l).symm) h (sortT_sorted l)
theorem sortI_sorted (l : List Int) : (sortI l).Pairwise (· ≤ ·) := by
  have h := List.pairwise_mergeSort (le := fun a b : Int => decide (a ≤ b)) (by intro a b c; simp only [decide_eq_true_eq]; omega) (by intro a b; simp only [Bool.or_eq_true, decide_eq_true_eq]; omega) l
  exact h.imp fun h => of_decide_eq_true h
theorem sortI_perm (l : List Int) : (sortI l).Perm l := List.mergeSort_perm l _
theorem sortI_eq {l m : List Int} (p : m.Perm l) (h : m.Pairwise (· ≤ ·)) : m = sortI l :=
  perm_sorted_eq (fun a b h1 h2 => by omega) (p.trans (sortI_perm l).symm) h (sortI_sorted l)

/-! ### tuples of ints on the heap -/
def IsTI (h : Heap) (v : Value) (ns : List Int) : Prop := ∃ (a : Addr) (o : Obj) (its : Array Value) (n : Nat), v = .ref a ∧ h.get? a = some o ∧ o.cls = .type "tuple" ∧ o.data = .seq its n ∧ IntsAre its.toList ns
theorem intsAre_inj : ∀ {us : List Value} {ns ms : List Int}, IntsAre us ns → IntsAre us ms → ns = ms
  | [], _, _, h, k => by cases h; cases k; rfl
  | u :: us, _, _, h, k => by
    cases h with
    | cons n t h =>
      cases k with
      | cons m t' k => rw [intsAre_inj h k]
theorem IsTI.inj {h : Heap} {v : Value} {ns ms : List Int} (a : IsTI h v ns) (b : IsTI h v ms) : ns = ms := by
  obtain ⟨p, o, its, n, e, h1, h2, h3, h4⟩ := a
  obtain ⟨p', o', its', n', e', h1', h2', h3', h4'⟩ := b
  rw [e] at e'
  cases e'
  rw [h1] at h1'
  cases h1'
  rw [h3] at h3'
  cases h3'
  exact intsAre_inj h4 h4'
theorem IsTI.keeps {h h' : Heap} {v : Value} {ns : List Int} (p : IsTI h v ns) (k : ∀ b o, h.get? b = some o → o.cls = .type "tuple" → h'.get? b = some o) : IsTI h' v ns := by
  obtain ⟨a, o, its, n, e, h1, h2, h3, h4⟩ := p
  exact ⟨a, o, its, n, e, k _ _ h1 h2, h2, h3, h4⟩
theorem intsAre_len : ∀ {us : List Value} {ns : List Int}, IntsAre us ns → us.length = ns.length
  | _, _, .nil => rfl
  | _, _, .cons n t h => by rw [List.length_cons, List.length_cons, intsAre_len h]
theorem oneLtAny {prog : Program} {w : World} {A : Around} {E : Value → Shared → Prop} {s : Shared} (c : Bool) {p q : Int} {t u : Tok} {Q : Bool → Shared → Prop} (h : Q (decide (p < q)) s) : wpAny (model prog w) A (oneLt' c (.int p t) (.int q u)) Q E s := by
  cases c with
  | true => exact oneLt_int h
  | false => exact PySem.W.kat_one _ _ (PyProof.Rows.lt_int (Q := PySem.W.BoolBack Q) h)
theorem kat_ints {prog : Program} {w : World} {A : Around} {s : Shared} {Q : Bool → Shared → Prop} : ∀ {us vs : List Value} {ns ms : List Int} (i : Nat), IntsAre us ns → IntsAre vs ms → Q (HT.lexLt ns ms) s →
    PySem.W.KatLex prog w A true (decide (us.length < vs.length)) Q (us.zip vs) i s
  | [], [], _, _, i, h, k, q => by cases h; cases k; exact PySem.W.kat_nil q
  | [], v :: vs, _, _, i, h, k, q => by
    cases h
    cases k
    refine PySem.W.kat_nil ?_
    rw [decide_eq_true (by simp)]
    exact q
  | u :: us, [], _, _, i, h, k, q => by
    cases h
    cases k
    refine PySem.W.kat_nil ?_
    rw [decide_eq_false (by simp)]
    exact q
  | _ :: us, _ :: vs, _, _, i, .cons (vs := _) x t h, .cons (vs := _) y t' k, q => by
    rw [HT.lexLt_cons] at q
    refine PySem.W.kat_cons (SeqAt.EqAt.int_int x t y t' prog w _ _ ?_)
    refine PySem.W.kat_go (fun e1 => ?_) (fun e1 => ?_)
    · have e : x = y := by simpa using e1
      rw [if_pos e] at q
      have hl : decide ((Value.int x t :: us).length < (Value.int y t' :: vs).length) = decide (us.length < vs.length) := by
        simp only [List.length_cons, Nat.add_lt_add_iff_right]
      rw [hl]
      exact PySem.W.kat_yes (kat_ints (i + 1) h k q)
    · have e : ¬ x = y := by simpa using e1
      rw [if_neg e] at q
      exact PySem.W.kat_no (oneLtAny _ q)
open Classical in
noncomputable def kOf (h : Heap) (u : Value) : List Int := if x : ∃ ns, IsTI h u ns then x.choose else []
theorem kOf_eq {h : Heap} {u : Value} {ns : List Int} (x : IsTI h u ns) : kOf h u = ns := by
  unfold kOf
  rw [dif_pos ⟨ns, x⟩]
  exact (Exists.choose_spec (p := fun ns => IsTI h u ns) ⟨ns, x⟩).inj x
section
variable {prog : Program} {w : World} {A : Around} {E : Value → Shared → Prop} {s : Shared}
theorem tup_cmp {vs : List Value} {k : Value → List Int} (hp : ∀ v ∈ vs, IsTI s.heap v (k v)) : SrtO.Cmp prog w A s (tuples' true) (fun p => p.1 ∈ vs) (SrtO.lt2 fun v u => HT.lexLt (k v) (k u)) := by
  intro p q hm hm'
  have h1 := hp _ hm
  have h2 := hp _ hm'
  show wpAny (model prog w) A (keyLt' (tuples' true) p.1 q.1) (fun r s' => s' = s ∧ r = HT.lexLt (k p.1) (k q.1)) (fun _ _ => False) s
  obtain ⟨a, o, its, n, e, ho, hc, hd, hi⟩ := h1
  obtain ⟨a', o', its', n', e', ho', hc', hd', hi'⟩ := h2
  rw [e] at hi ⊢
  rw [e'] at hi' ⊢
  refine PySem.W.kat_lt ho hd ho' hd' ?_
  have q0 := kat_ints (prog := prog) (w := w) (A := A) (s := s) (Q := fun r s' => s' = s ∧ r = HT.lexLt (k (.ref a)) (k (.ref a'))) 0 hi hi' ⟨rfl, rfl⟩
  simpa only [Array.length_toList] using q0
theorem firstsT {h : Heap} : ∀ {vs : List Value}, (∀ v ∈ vs, ∃ x r, IsTI h v (x :: r)) → ∃ fs : List Value, PySem.W.KatTups h vs fs ∧ fs.length = vs.length ∧ ∀ f ∈ fs, ∃ x t, f = Value.int x t
  | [], _ => ⟨[], PySem.W.KatTups.nil, rfl, fun _ hm => by simp at hm⟩
  | v :: vs, hp => by
    obtain ⟨fs, h1, h2, h3⟩ := firstsT (vs := vs) fun v' hm => hp v' (List.mem_cons_of_mem _ hm)
    obtain ⟨x, r, a, o, its, n, e, ho, hc, hd, hi⟩ := hp v (List.mem_cons_self ..)
    subst e
    obtain ⟨t, us, hus⟩ : ∃ t us, its.toList = Value.int x t :: us := by
      generalize its.toList = l at hi
      cases hi with
      | cons n t h => exact ⟨t, _, rfl⟩
    have h0 : its[0]? = some (Value.int x t) := by
      rw [← Array.getElem?_toList, hus]; rfl
    refine ⟨.int x t :: fs, PySem.W.KatTups.cons ho hc hd h0 h1, by rw [List.length_cons, List.length_cons, h2], fun f hm => ?_⟩
    rcases List.mem_cons.mp hm with rfl | hm
    · exact ⟨x, t, rfl⟩
    · exact h3 f hm
theorem tups_sortableO {a : Addr} {vs : List Value} {k : Value → List Int} (h0 : 0 < vs.length) (hp : ∀ v ∈ vs, IsTI s.heap v (k v) ∧ k v ≠ []) (ha : ∀ o, s.heap.get? a = some o → o.cls ≠ .type "tuple") : SrtO.SortableO prog w A s a vs fun v u => HT.lexLt (k v) (k u) := by
  intro h' keep
  have hp' : ∀ v ∈ vs, IsTI h' v (k v) := fun v hm => (hp v hm).1.keeps fun b o e c => keep b o (fun z => by subst z; exact ha o e c) e
  obtain ⟨fs, h1, h2, h3⟩ := firstsT fun v hm => by
    have q := hp' v hm
    have ne := (hp v hm).2
    cases e : k v with
    | nil => exact absurd e ne
    | cons x r => rw [e] at q; exact ⟨x, r, q⟩
  refine ⟨tuples' true, fun Q E hq => ?_, tup_cmp hp'⟩
  refine PySem.W.kat_kind (T := .type "int") h1 (by omega) (fun f hm => ?_) (by rfl) ?_
  · obtain ⟨x, t, rfl⟩ := h3 f hm
    exact PySem.W.Looks.now
  · have e : (Value.type "int" != Value.type "tuple") = true := by first | decide +kernel | rfl | decide
    rw [e]
    exact hq
theorem sortedAll_kept {h : Heap} {vs : List Value} {out : Array Value} {b : Addr} {o : Obj} (e : h.get? b = some o) : (sortedAll h vs out).get? b = some o := PyProof.Rows.sortedAll_old e
end

/-! ### out of a tuple -/
section
variable {prog : Program} {w : World} {A : Around} {E : Value → Shared → Prop} {s : Shared}
/-- the heap with one list more, which begins empty and takes in these items -/
abbrev grown1 (h : Heap) (us : List Value) : Heap := (h.push (seqObj "list" #[] 0)).update h.objs.size (Obj.mapSeq (· ++ us.toArray))
theorem grown1_size (h : Heap) (us : List Value) : (grown1 h us).objs.size = h.objs.size + 1 := (Heap.size_update ..).trans (Heap.size_push ..)
theorem grown1_old {h : Heap} {us : List Value} {b : Addr} {o : Obj} (e : h.get? b = some o) : (grown1 h us).get? b = some o :=
  (Heap.get?_update_ne _ _ _ _ (Nat.ne_of_lt (Heap.lt_size e))).trans (Heap.get?_push_of_some _ e)
/-- a tuple's items, gathered -/
theorem gather_tup {t : Addr} {o : Obj} {us : List Value} {n : Nat} {Q : List Value → Shared → Prop} (ho : s.heap.get? t = some o) (hc : o.cls = .type "tuple") (hd : o.data = .seq us.toArray n) (hz : us.length ≤ sizeLine)
    (hq : Q us { s with heap := grown1 s.heap us }) : wpAny (model prog w) A (collect (.ref t)) Q E s := by
  have old : (s.heap.push (seqObj "list" #[] 0)).get? t = some o := Heap.get?_push_of_some _ ho
  have new : (s.heap.push (seqObj "list" #[] 0)).get? s.heap.objs.size = some (seqObj "list" #[] 0) := Heap.get?_push_size _ rfl
  unfold collect
  apply wpAny_bind
  apply wpAny_runValue
  apply codeAny_builtin entry_proto_collect'
  show wpAny (model prog w) _ (do again (.builtin "list.__iadd__" ⟨[← newList [], .ref t], []⟩)) _ _ s
  apply wpAny_bind
  refine wpAny_newList ?_ (Nat.zero_le _)
  apply wpAny_pure
  refine ⟨Code.quiet_builtin _ (by decide +kernel), ?_⟩
  apply codeAny_builtin entry_list_iadd'
  show wpAny (model prog w) _ (Builtin.List.listExtendWith (.ref s.heap.objs.size) (.ref t) _) _ _ ⟨s.heap.push (seqObj "list" #[] 0), s.gens, s.drawn, s.toks, s.os⟩
  unfold Builtin.List.listExtendWith
  apply wpAny_bind
  refine wpAny_typeOf (T := "tuple") ⟨o, old, hc⟩ ?_
  have ht : (Value.type "tuple" == Value.type "list" || Value.type "tuple" == Value.type "tuple") = true := rfl
  rw [if_pos (by first | exact ht | (simp only [ht]; done) | (rw [show (Value.type "tuple" == Value.type "tuple") = true from rfl]; simp))]
  apply wpAny_bind
  refine listItems_at old hd ?_
  apply wpAny_bind
  refine listItems_at (xs := #[]) (n := 0) new rfl ?_
  rw [if_neg (by simp)]
  apply wpAny_bind
  refine listUpdate_at (xs := #[]) (n := 0) new rfl ?_ (Nat.zero_le _) ?_
  · apply wpAny_pure
    show wpAny (model prog w) A (do
      let o ← load s.heap.objs.size
      match o.data with
      | .seq xs _ => pure xs.toList
      | _ => unsupported "internal:collect") Q E { s with heap := grown1 s.heap us }
    apply wpAny_bind
    refine wpAny_load (get?_update_seq new _) ?_
    have e : ((#[] : Array Value) ++ us.toArray).toList = us := by simp
    show wpAny (model prog w) A (pure ((#[] : Array Value) ++ us.toArray).toList) Q E _
    rw [e]
    exact wpAny_pure hq
  · show ((#[] : Array Value) ++ us.toArray).size ≤ sizeLine + 1
    simp only [Array.size_append, List.size_toArray, List.length_nil]
    omega
open SrtO in
theorem sorted_tup {t : Addr} {o : Obj} {us : List Value} {n : Nat} {ltv : Value → Value → Bool} {Q : Value → Shared → Prop} (O : Swo ltv) (ho : s.heap.get? t = some o) (hc : o.cls = .type "tuple") (hd : o.data = .seq us.toArray n) (hz : us.length ≤ sizeLine)
    (hS : 2 ≤ us.length → ∀ (h1 : Heap) (a : Addr), h1.get? a = some (seqObj "list" us.toArray 0) → (∀ b u, s.heap.get? b = some u → b ≠ a ∧ h1.get? b = some u) → SortableO prog w A.in1.in1 { s with heap := h1 } a us ltv)
    (hq : ∀ out : List Value, Srtd ltv out → Stb ltv out us → Q (.ref (s.heap.objs.size + 1)) { s with heap := sortedAll s.heap us out.toArray }) :
    wpAny (model prog w) A (call (.builtin "sorted") [.ref t]) Q E s := by
  have e1 := grown1_size s.heap us
  have here : ((grown1 s.heap us).push (seqObj "list" us.toArray 0)).get? (s.heap.objs.size + 1) = some (seqObj "list" us.toArray 0) := by rw [← e1]; exact Heap.get?_push_size _ rfl
  apply Calls.call_function_entry kind_sorted plain_sorted entry_sorted (args_sorted1 _)
  unfold Builtin.«sorted»
  apply wpAny_bind (m := checkCount "sorted" 1 1 _)
  apply wpAny_pure
  apply wpAny_bind
  refine gather_tup ho hc hd hz ?_
  apply wpAny_bind
  refine wpAny_newList ?_ hz
  show wpAny _ _ _ _ _ { s with heap := (grown1 s.heap us).push (seqObj "list" us.toArray 0) }
  rw [e1]
  apply wpAny_bind
  apply wpAny_holding
  refine wpAny_call_entry slot_list_sort ⟨_, here, rfl⟩ entry_list_sort ?_ (args_list_sort _)
  refine list_sort_ord O here hz (fun h2 => hS h2 _ _ here fun b u q => ⟨Nat.ne_of_lt (Nat.lt_succ_of_lt (Heap.lt_size q)), Heap.get?_push_of_some _ (grown1_old q)⟩) fun out a1 a2 => ⟨_, rfl, ?_⟩
  exact wpAny_pure ⟨_, rfl, hq out a1 a2⟩
end
/-- what sorted takes: a list's items or a tuple's, with its rule -/
theorem sort_src {X : Cx} {pins : List (Addr × Obj)} {σ : L2.St} {H : Hp} {s : Shared} {a : Addr} {xs : List V} (I : Inv X pins σ H s) (h : SqL X.K H a xs ∨ SqT X.K H a xs) : ∃ its : List Value, Vals xs its ∧ its.length ≤ sizeLine ∧
    ∀ {A : Around} {E Q : Value → Shared → Prop} {ltv : Value → Value → Bool}, SrtO.Swo ltv → (2 ≤ its.length → ∀ (h1 : Heap) (c : Addr), h1.get? c = some (seqObj "list" its.toArray 0) → (∀ b u, s.heap.get? b = some u → b ≠ c ∧ h1.get? b = some u) → SrtO.SortableO X.prog X.w A.in1.in1 { s with heap := h1 } c its ltv) →
      (∀ out : List Value, SrtO.Srtd ltv out → SrtO.Stb ltv out its → Q (.ref (s.heap.objs.size + 1)) { s with heap := sortedAll s.heap its out.toArray }) → wpAny (model X.prog X.w) A (call (.builtin "sorted") [.ref a]) Q E s := by
  rcases h with h | h
  · obtain ⟨its, r, hl, hz⟩ := I.list h
    have hz' : its.length ≤ sizeLine := by rw [← r.length]; exact hz
    exact ⟨its, r, hz', fun O hS hq => SrtO.sorted_ord O hl.isList hz' hS hq⟩
  · obtain ⟨its, r, ⟨o, ho, hc, n, hd⟩, hz⟩ := I.tuple h
    have hz' : its.length ≤ sizeLine := by first | exact hz | (rw [← r.length]; exact hz)
    exact ⟨its, r, hz', fun O hS hq => sorted_tup O ho hc hd hz' hS hq⟩

/-! ### the rule -/
def rSortM (G : Glob) : List V → Hp → VK → Prop := fun vs H Q => ∃ (a : Addr) (xs : List V), vs = [.ref a] ∧ (SqL G.K H a xs ∨ SqT G.K H a xs) ∧
  ((∃ ns : List Int, xs = ns.map V.int ∧ ∀ p, H p = none → Q (.ref p) (upd H p (.lst ((sortI ns).map V.int)))) ∨
   (∃ ts : List (List Int), (∀ t ∈ ts, t ≠ []) ∧ Reps G H (ts.map fun t => D.tup (t.map D.int)) xs ∧
      ∀ (zs : List (V × List Int)) p, zs.Perm (xs.zip ts) → zs.map (·.2) = sortT ts → H p = none → Q (.ref p) (upd H p (.lst (zs.map (·.1))))))
theorem tups_in {G : Glob} {X : Cx} {pins : List (Addr × Obj)} {σ : L2.St} {H : Hp} {s : Shared} (hK : X.K = G.K) (I : Inv X pins σ H s) : ∀ {ts : List (List Int)} {xs : List V} {us : List Value}, Reps G H (ts.map fun t => D.tup (t.map D.int)) xs → Vals xs us →
    us.map (kOf s.heap) = ts ∧ (∀ u ∈ us, ∃ t ∈ ts, IsTI s.heap u t) ∧ (∀ u ∈ us, ∃ a, u = Value.ref a) ∧ xs = us.map backV
  | [], xs, us, h, r => by
    obtain rfl := Reps.nil_inv h
    cases r
    exact ⟨rfl, fun u hu => (by cases hu), fun u hu => (by cases hu), rfl⟩
  | t :: ts, xs, us, h, r => by
    obtain ⟨v, rr, rfl, h1, h2⟩ := Reps.cons_inv (d := .tup (t.map D.int)) (ds := ts.map fun t => D.tup (t.map D.int)) h
    cases r with
    | cons r1 r2 =>
      rename_i u us
      obtain ⟨i1, i2, i3, i4⟩ := tups_in hK I h2 r2
      simp only [Rep] at h1
      obtain ⟨a, vs, rfl, hs, hv⟩ := h1
      obtain rfl := reps_ints hv
      cases r1
      have hs' : SqT X.K H a (t.map V.int) := (.inl (.inl hs))
      obtain ⟨its, rv, ⟨o, ho, hc, n, hd⟩, _⟩ := I.tuple hs'
      have ti : IsTI s.heap (.ref a) t := ⟨a, o, its.toArray, n, rfl, ho, hc, hd, by simpa using rv.ints⟩
      refine ⟨by rw [List.map_cons, i1, kOf_eq ti], fun u hu => ?_, fun u hu => ?_, by rw [List.map_cons, ← i4]; rfl⟩
      · rcases List.mem_cons.mp hu with rfl | hu
        · exact ⟨t, List.mem_cons_self, ti⟩
        · obtain ⟨t', m, q⟩ := i2 u hu
          exact ⟨t', List.mem_cons_of_mem _ m, q⟩
      · rcases List.mem_cons.mp hu with rfl | hu
        · exact ⟨a, rfl⟩
        · exact i3 u hu
theorem cr_sortM {X : Cx} : CallR X (.builtin "sorted") (rSortM ⟨X.prog, X.w, X.K, X.mg, X.base⟩) := by
  intro pins s σ H vs us Q I r h
  obtain ⟨a, xs, rfl, hs, h⟩ := h
  obtain ⟨u, rfl, ru⟩ := vals1 r
  obtain rfl : u = Value.ref a := ru
  obtain ⟨its, rv, hz', go⟩ := sort_src I hs
  have hz : xs.length ≤ sizeLine := by rw [rv.length]; exact hz'
  rcases h with ⟨ns, rfl, q⟩ | ⟨ts, hne, hr, q⟩
  · have hi := rv.ints
    refine go SrtO.swo_int (fun h2 h₁ a' _ _ => SrtO.ints_sortable hi h2) fun out h1 h2 => ?_
    obtain ⟨k1, k2, k3⟩ := SrtO.ints_out hi h1 h2
    obtain ⟨ep, he'⟩ := PyProof.Rows.sortedAll_at s.heap its out.toArray
    have e : out.map SrtO.iv = sortI ns := sortI_eq k2 k3
    have hlen : ((sortI ns).map V.int).length ≤ sizeLine := by
      rw [List.length_map, (sortI_perm ns).length_eq]
      simpa using hz
    refine ⟨.ref _, upd H (s.heap.objs.size + 1) (.lst ((sortI ns).map V.int)), I.laid (t' := s.toks) (fun b o e => sortedAll_kept e) (Nat.le_succ _) ⟨hlen, out, ep, ?_, he'⟩, rfl, q _ (I.hok.fresh (Nat.le_succ _))⟩
    rw [← e]
    exact vals_of_ints k1
  · obtain ⟨e1, e2, e3, e4⟩ := tups_in (G := ⟨X.prog, X.w, X.K, X.mg, X.base⟩) rfl I hr rv
    have hk : ∀ u ∈ its, IsTI s.heap u (kOf s.heap u) ∧ kOf s.heap u ≠ [] := fun u hu => by
      obtain ⟨t, m, ti⟩ := e2 u hu
      rw [kOf_eq ti]
      exact ⟨ti, hne t m⟩
    refine go (swo_lexK (kOf s.heap)) (fun h2 h₁ a' ha kk => ?_) fun out h1 h2 => ?_
    · refine tups_sortableO (s := { s with heap := h₁ }) (by omega) (fun v hm => ⟨(hk v hm).1.keeps fun b o e _ => (kk b o e).2, (hk v hm).2⟩) fun o e => ?_
      have e' : some o = some (seqObj "list" its.toArray 0) := e.symm.trans ha
      cases e'
      intro c
      exact absurd (Value.type.inj c) (by decide)
    · obtain ⟨ep, he'⟩ := PyProof.Rows.sortedAll_at s.heap its out.toArray
      have ho : ∀ u ∈ out, ∃ a, u = Value.ref a := fun u hu => e3 u (h2.perm.mem_iff.mp hu)
      have hp : (out.map fun u => (backV u, kOf s.heap u)).Perm (xs.zip ts) := by
        rw [e4, ← e1, List.zip_map', ]
        exact h2.perm.map _
      have hsrt : (out.map (kOf s.heap)) = sortT ts := by
        refine sortT_eq ?_ ?_
        · rw [← e1]; exact h2.perm.map _
        · rw [List.pairwise_map]
          exact h1.imp fun {a b} h => by
            have h' : HT.lexLt (kOf s.heap b) (kOf s.heap a) = false := h
            unfold lexLe
            rw [h']; rfl
      have q' := q (out.map fun u => (backV u, kOf s.heap u)) (s.heap.objs.size + 1) hp (by rw [List.map_map]; exact hsrt) (I.hok.fresh (Nat.le_succ _))
      rw [List.map_map] at q'
      refine ⟨.ref _, upd H (s.heap.objs.size + 1) (.lst (out.map backV)), I.laid (t' := s.toks) (fun b o e => sortedAll_kept e) (Nat.le_succ _) ⟨?_, out, ep, vals_back ho, he'⟩, rfl, q'⟩
      rw [List.length_map, h2.len]
      exact hz'
end M
set_option Elab.async false
set_option linter.all false
set_option maxRecDepth 100000
set_option maxHeartbeats 2000000
/-! M: the order of tuples whose items are ints, truth values and tuples of ints. -/
namespace M
open PySem L2 PySem.Spec PyProof.Rows
/-- the items of one kind each, and their numbers in a row -/
inductive ItSh (h : Heap) : List Sh1 → List Value → List Int → Prop
  | nil : ItSh h [] [] []
  | i {sh us k} (x : Int) (t : Tok) (r : ItSh h sh us k) : ItSh h (.i :: sh) (.int x t :: us) (x :: k)
  | b {sh us k} (c : Bool) (r : ItSh h sh us k) : ItSh h (.b :: sh) (.bool c :: us) (asNat c :: k)
  | t {sh us k} (v : Value) (ns : List Int) (n : Nat) (hn : ns.length = n) (hv : IsTI h v ns) (r : ItSh h sh us k) : ItSh h (.t n :: sh) (v :: us) (ns ++ k)
theorem ItSh.len {h : Heap} : ∀ {sh : List Sh1} {us : List Value} {k : List Int}, ItSh h sh us k → us.length = sh.length
  | _, _, _, .nil => rfl
  | _, _, _, .i _ _ r => by rw [List.length_cons, List.length_cons, r.len]
  | _, _, _, .b _ r => by rw [List.length_cons, List.length_cons, r.len]
  | _, _, _, .t _ _ _ _ _ r => by rw [List.length_cons, List.length_cons, r.len]
theorem ItSh.keeps {h h' : Heap} (kp : ∀ b o, h.get? b = some o → o.cls = .type "tuple" → h'.get? b = some o) : ∀ {sh : List Sh1} {us : List Value} {k : List Int}, ItSh h sh us k → ItSh h' sh us k
  | _, _, _, .nil => .nil
  | _, _, _, .i x tk r => .i x tk (r.keeps kp)
  | _, _, _, .b c r => .b c (r.keeps kp)
  | _, _, _, .t v ns n hn hv r => .t v ns n hn (hv.keeps kp) (r.keeps kp)
theorem lex_same (ns : List Int) (k m : List Int) : HT.lexLt (ns ++ k) (ns ++ m) = HT.lexLt k m := by
  induction ns with
  | nil => rfl
  | cons x ns ih => rw [List.cons_append, List.cons_append, HT.lexLt_cons, if_pos rfl, ih]
theorem lex_other : ∀ (ns ms : List Int) (k m : List Int), ns.length = ms.length → ns ≠ ms → HT.lexLt (ns ++ k) (ms ++ m) = HT.lexLt ns ms
  | [], [], _, _, _, h => absurd rfl h
  | [], _ :: _, _, _, h, _ => by simp at h
  | _ :: _, [], _, _, h, _ => by simp at h
  | x :: ns, y :: ms, k, m, hl, h => by
    rw [List.cons_append, List.cons_append, HT.lexLt_cons, HT.lexLt_cons]
    by_cases e : x = y
    · rw [if_pos e, if_pos e]
      exact lex_other ns ms k m (by simpa using hl) fun z => h (by rw [e, z])
    · rw [if_neg e, if_neg e]
theorem itemsAre_of {P : Program} {w : World} : ∀ {us : List Value} {ns : List Int}, IntsAre us ns → ItemsAre (PySem.intKind P w) ns us
  | _, _, .nil => .nil
  | _, _, .cons n t h => .cons (intKind_is P w n t) (itemsAre_of h)
section
variable {prog : Program} {w : World} {A : Around} {s : Shared} {Q : Bool → Shared → Prop}
theorem kat_sh (hu : A.units < cLine) : ∀ {sh : List Sh1} {us vs : List Value} {k m : List Int} (j : Nat), ItSh s.heap sh us k → ItSh s.heap sh vs m → Q (HT.lexLt k m) s → PySem.W.KatLex prog w A false (decide (us.length < vs.length)) Q (us.zip vs) j s
  | _, _, _, _, _, j, .nil, .nil, q => PySem.W.kat_nil q
  | _, _, _, _, _, j, .i (us := us) x t r, .i (us := vs) y t' r', q => by
    rw [HT.lexLt_cons] at q
    have hl : decide ((Value.int x t :: us).length < (Value.int y t' :: vs).length) = decide (us.length < vs.length) := by simp
    refine PySem.W.kat_cons (SeqAt.EqAt.int_int x t y t' prog w _ _ (PySem.W.kat_go (fun e1 => ?_) fun e1 => ?_))
    · rw [if_pos (by simpa using e1)] at q
      rw [hl]
      exact PySem.W.kat_yes (kat_sh hu (j + 1) r r' q)
    · rw [if_neg (by simpa using e1)] at q
      exact PySem.W.kat_no (oneLtAny _ q)
  | _, _, _, _, _, j, .b (us := us) (k := k) c r, .b (us := vs) (k := m) c' r', q => by
    rw [HT.lexLt_cons] at q
    have hl : decide ((Value.bool c :: us).length < (Value.bool c' :: vs).length) = decide (us.length < vs.length) := by simp
    refine PySem.W.kat_cons (SeqAt.EqAt.bool_bool c c' prog w _ _ (PySem.W.kat_go (fun e1 => ?_) fun e1 => ?_))
    · have e : c = c' := by simpa using e1
      rw [if_pos (by rw [e])] at q
      rw [hl]
      exact PySem.W.kat_yes (kat_sh hu (j + 1) r r' q)
    · have e : c ≠ c' := by simpa using e1
      rw [if_neg (by cases c <;> cases c' <;> first | exact absurd rfl e | decide)] at q
      refine PySem.W.kat_no (PySem.W.kat_one _ _ (PyProof.Rows.lt_bool (Q := PySem.W.BoolBack Q) ?_))
      have e2 : decide (PyProof.Rows.b2i c < PyProof.Rows.b2i c') = decide (asNat c < asNat c') := by cases c <;> cases c' <;> rfl
      rw [e2]
      exact q
  | _, _, _, _, _, j, .t (us := us) (k := k) v ns n hn hv r, .t (us := vs) (k := m) v' ms _ hm hv' r', q => by
    obtain ⟨a, o, its, n1, ea, h1, h2, h3, h4⟩ := hv
    obtain ⟨a', o', its', n1', ea', h1', h2', h3', h4'⟩ := hv'
    subst ea ea'
    have hl : decide ((Value.ref a :: us).length < (Value.ref a' :: vs).length) = decide (us.length < vs.length) := by simp
    refine PySem.W.kat_cons (wpAny_eqBool_tuple (knd := PySem.intKind prog w) (x := ns) (y := ms) hu ⟨o, its, n1, h1, h2, h3, itemsAre_of h4⟩ ⟨o', its', n1', h1', h2', h3', itemsAre_of h4'⟩ (PySem.W.kat_go (fun e1 => ?_) fun e1 => ?_))
    · have e : ns = ms := of_decide_eq_true e1
      subst e
      rw [lex_same] at q
      rw [hl]
      exact PySem.W.kat_yes (kat_sh hu (j + 1) r r' q)
    · have e : ns ≠ ms := of_decide_eq_false e1
      rw [lex_other ns ms k m (hn.trans hm.symm) e] at q
      exact PySem.W.kat_no (PySem.W.kat_one _ _ (HT.lt_tupInts ⟨o, h1, h2, n1, h3⟩ ⟨o', h1', h2', n1', h3'⟩ h4 h4' hu q))
end

/-! ### the whole tuples -/
theorem app_inj : ∀ {a b c d : List Int}, a.length = b.length → a ++ c = b ++ d → a = b ∧ c = d
  | [], [], _, _, _, e => ⟨rfl, e⟩
  | [], _ :: _, _, _, h, _ => by simp at h
  | _ :: _, [], _, _, h, _ => by simp at h
  | x :: a, y :: b, c, d, h, e => by
    rw [List.cons_append, List.cons_append] at e
    obtain ⟨e1, e2⟩ := List.cons.inj e
    obtain ⟨h1, h2⟩ := app_inj (by simpa using h) e2
    exact ⟨by rw [e1, h1], h2⟩
theorem ItSh.inj {h : Heap} : ∀ {sh : List Sh1} {us : List Value} {k m : List Int}, ItSh h sh us k → ItSh h sh us m → k = m
  | _, _, _, _, .nil, .nil => rfl
  | _, _, _, _, .i _ _ r, .i _ _ r' => by rw [r.inj r']
  | _, _, _, _, .b _ r, .b _ r' => by rw [r.inj r']
  | _, _, _, _, .t _ _ _ _ hv r, .t _ _ _ _ hv' r' => by rw [hv.inj hv', r.inj r']
/-- a tuple of that shape, with that key -/
def IsSh (h : Heap) (sh : List Sh1) (v : Value) (k : List Int) : Prop := ∃ (a : Addr) (o : Obj) (its : Array Value) (n : Nat), v = .ref a ∧ h.get? a = some o ∧ o.cls = .type "tuple" ∧ o.data = .seq its n ∧ ItSh h sh its.toList k
theorem IsSh.inj {h : Heap} {sh : List Sh1} {v : Value} {k m : List Int} (x : IsSh h sh v k) (y : IsSh h sh v m) : k = m := by
  obtain ⟨a, o, its, n, e, h1, h2, h3, h4⟩ := x
  obtain ⟨a', o', its', n', e', h1', h2', h3', h4'⟩ := y
  rw [e] at e'
  cases e'
  rw [h1] at h1'
  cases h1'
  rw [h3] at h3'
  cases h3'
  exact h4.inj h4'
theorem IsSh.keeps {h h' : Heap} {sh : List Sh1} {v : Value} {k : List Int} (x : IsSh h sh v k) (kp : ∀ b o, h.get? b = some o → o.cls = .type "tuple" → h'.get? b = some o) : IsSh h' sh v k := by
  obtain ⟨a, o, its, n, e, h1, h2, h3, h4⟩ := x
  exact ⟨a, o, its, n, e, kp _ _ h1 h2, h2, h3, h4.keeps kp⟩
open Classical in
noncomputable def kSh (h : Heap) (sh : List Sh1) (u : Value) : List Int := if x : ∃ k, IsSh h sh u k then x.choose else []
theorem kSh_eq {h : Heap} {sh : List Sh1} {u : Value} {k : List Int} (x : IsSh h sh u k) : kSh h sh u = k := by
  unfold kSh
  rw [dif_pos ⟨k, x⟩]
  exact (Exists.choose_spec (p := fun k => IsSh h sh u k) ⟨k, x⟩).inj x
section
variable {prog : Program} {w : World} {A : Around} {s : Shared}
theorem sh_cmp {sh : List Sh1} {vs : List Value} {k : Value → List Int} (hu : A.units < cLine) (hp : ∀ v ∈ vs, IsSh s.heap sh v (k v)) : SrtO.Cmp prog w A s (tuples' false) (fun p => p.1 ∈ vs) (SrtO.lt2 fun v u => HT.lexLt (k v) (k u)) := fun p q hm hm' => by
  obtain ⟨a, o, its, n, e, ho, _, hd, hi⟩ := hp _ hm
  obtain ⟨a', o', its', n', e', ho', _, hd', hi'⟩ := hp _ hm'
  have go : wpAny (model prog w) A (keyLt' (tuples' false) (.ref a) (.ref a')) (fun r s' => s' = s ∧ r = HT.lexLt (k p.1) (k q.1)) (fun _ _ => False) s := by
    refine PySem.W.kat_lt ho hd ho' hd' ?_
    simpa only [Array.length_toList] using kat_sh (prog := prog) (w := w) (Q := fun r s' => s' = s ∧ r = HT.lexLt (k p.1) (k q.1)) hu 0 hi hi' ⟨rfl, rfl⟩
  rw [← e, ← e'] at go
  exact go
theorem sh_firsts {h : Heap} {n : Nat} {sh : List Sh1} : ∀ {vs : List Value}, (∀ v ∈ vs, ∃ k, IsSh h (.t n :: sh) v k) → ∃ fs : List Value, PySem.W.KatTups h vs fs ∧ fs.length = vs.length ∧ ∀ f ∈ fs, ∃ a o, f = Value.ref a ∧ h.get? a = some o ∧ o.cls = .type "tuple"
  | [], _ => ⟨[], PySem.W.KatTups.nil, rfl, fun _ z => by cases z⟩
  | v :: vs, hp => by
    obtain ⟨fs, h1, h2, h3⟩ := sh_firsts (vs := vs) fun u hu => hp u (List.mem_cons_of_mem _ hu)
    obtain ⟨k, a, o, its, m, rfl, ho, hc, hd, hi⟩ := hp v List.mem_cons_self
    obtain ⟨u, us, hus, b, ob, hub, hb, hcb⟩ : ∃ u us, its.toList = u :: us ∧ ∃ b ob, u = Value.ref b ∧ h.get? b = some ob ∧ ob.cls = .type "tuple" := by
      generalize its.toList = l at hi
      cases hi with
      | t u ns _ hn hv r =>
        obtain ⟨b, ob, _, _, e1, e2, e3, _⟩ := hv
        exact ⟨u, _, rfl, b, ob, e1, e2, e3⟩
    have h0 : its[0]? = some u := by rw [← Array.getElem?_toList, hus]; rfl
    refine ⟨u :: fs, PySem.W.KatTups.cons ho hc hd h0 h1, by rw [List.length_cons, List.length_cons, h2], fun f hf => ?_⟩
    rcases List.mem_cons.mp hf with rfl | hf
    · exact ⟨b, ob, hub, hb, hcb⟩
    · exact h3 f hf
theorem sh_sortable {a : Addr} {vs : List Value} {n : Nat} {sh : List Sh1} {k : Value → List Int} (hu : A.units < cLine) (h0 : 0 < vs.length) (hp : ∀ v ∈ vs, IsSh s.heap (.t n :: sh) v (k v)) (ha : ∀ o, s.heap.get? a = some o → o.cls ≠ .type "tuple") : SrtO.SortableO prog w A s a vs fun v u => HT.lexLt (k v) (k u) := fun h' kp => by
  have hp' : ∀ v ∈ vs, IsSh h' (.t n :: sh) v (k v) := fun v hv => (hp v hv).keeps fun b o e c => kp b o (fun z => ha o (by rw [← z]; exact e) c) e
  obtain ⟨fs, f1, f2, f3⟩ := sh_firsts fun v hv => ⟨_, hp' v hv⟩
  refine ⟨tuples' false, fun Q E q => ?_, sh_cmp (s := { s with heap := h' }) hu hp'⟩
  refine PySem.W.kat_kind (T := .type "tuple") f1 (by omega) (fun f hf => ?_) rfl ?_
  · obtain ⟨b, ob, rfl, e1, e2⟩ := f3 f hf
    exact PySem.W.kitAt_ty _ _ ⟨ob, e1, e2⟩
  · have e : (Value.type "tuple" != Value.type "tuple") = false := by decide +kernel
    rw [e]
    exact q
end

/-! ### the rule -/
def rSortN (G : Glob) : List V → Hp → VK → Prop := fun vs H Q => ∃ (a : Addr) (xs : List V) (n : Nat) (sh : List Sh1) (ds : List D), vs = [.ref a] ∧ (SqL G.K H a xs ∨ SqT G.K H a xs) ∧ Reps G H ds xs ∧ (∀ d ∈ ds, shD d = some (.t n :: sh)) ∧
  ∀ (zs : List (V × List Int)) p, zs.Perm (xs.zip (ds.map keyT)) → zs.map (·.2) = sortT (ds.map keyT) → H p = none → Q (.ref p) (upd H p (.lst (zs.map (·.1))))
section
variable {G : Glob} {X : Cx} {pins : List (Addr × Obj)} {σ : L2.St} {H : Hp} {s : Shared}
theorem tup_is (hK : X.K = G.K) (I : Inv X pins σ H s) {l : List D} {v : V} {u : Value} {ns : List Int} (hi : asInts l = some ns) (r : Rep G H (.tup l) v) (ru : RelV v u) : IsTI s.heap u ns := by
  obtain rfl := asInts_map hi
  simp only [Rep] at r
  obtain ⟨a, vs, rfl, hs, hv⟩ := r
  obtain rfl := reps_ints hv
  obtain rfl : u = Value.ref a := ru
  obtain ⟨its, rv, ⟨o, ho, hc, n, hd⟩, _⟩ := I.tuple (show SqT X.K H a (ns.map V.int) from .inl (.inl hs))
  exact ⟨a, o, its.toArray, n, rfl, ho, hc, hd, by simpa using rv.ints⟩
theorem items_sh (hK : X.K = G.K) (I : Inv X pins σ H s) : ∀ {l : List D} {vs : List V} {us : List Value} {sh : List Sh1} {k : List Int}, Reps G H l vs → Vals vs us → shOf l = some (sh, k) → ItSh s.heap sh us k
  | [], vs, us, sh, k, h, r, e => by
    obtain rfl := h.nil_inv
    cases r
    cases e
    exact .nil
  | .int x :: l, vs, us, sh, k, h, r, e => by
    obtain ⟨v, rr, rfl, h1, h2⟩ := h.cons_inv
    cases r with
    | cons r1 r2 =>
      obtain ⟨⟨sh', k'⟩, e1, e2⟩ := Option.map_eq_some_iff.mp (show (shOf l).map (fun p => (Sh1.i :: p.1, x :: p.2)) = some (sh, k) from e)
      cases e2
      simp only [Rep] at h1
      subst h1
      obtain ⟨t, rfl⟩ := (r1 : ∃ t, _ = Value.int x t)
      exact .i x t (items_sh hK I h2 r2 e1)
  | .bl c :: l, vs, us, sh, k, h, r, e => by
    obtain ⟨v, rr, rfl, h1, h2⟩ := h.cons_inv
    cases r with
    | cons r1 r2 =>
      obtain ⟨⟨sh', k'⟩, e1, e2⟩ := Option.map_eq_some_iff.mp (show (shOf l).map (fun p => (Sh1.b :: p.1, asNat c :: p.2)) = some (sh, k) from e)
      cases e2
      simp only [Rep] at h1
      subst h1
      cases r1
      exact .b c (items_sh hK I h2 r2 e1)
  | .tup m :: l, vs, us, sh, k, h, r, e => by
    obtain ⟨v, rr, rfl, h1, h2⟩ := h.cons_inv
    cases r with
    | cons r1 r2 =>
      obtain ⟨ns, e0, e'⟩ := Option.bind_eq_some_iff.mp (show ((asInts m).bind fun ns => (shOf l).map fun p => (Sh1.t ns.length :: p.1, ns ++ p.2)) = some (sh, k) from e)
      obtain ⟨⟨sh', k'⟩, e1, e2⟩ := Option.map_eq_some_iff.mp e'
      cases e2
      exact .t _ ns _ rfl (tup_is hK I e0 h1 r1) (items_sh hK I h2 r2 e1)
  | .non :: _, _, _, _, _, _, _, e => by simp [shOf] at e
  | .str _ :: _, _, _, _, _, _, _, e => by simp [shOf] at e
  | .lst _ :: _, _, _, _, _, _, _, e => by simp [shOf] at e
  | .dic _ _ _ :: _, _, _, _, _, _, _, e => by simp [shOf] at e
  | .scr _ :: _, _, _, _, _, _, _, e => by simp [shOf] at e
  | .obj _ _ _ :: _, _, _, _, _, _, _, e => by simp [shOf] at e
  | .exv _ _ _ :: _, _, _, _, _, _, _, e => by simp [shOf] at e
  | .fn _ :: _, _, _, _, _, _, _, e => by simp [shOf] at e
theorem shD_tup {d : D} {sh : List Sh1} (h : shD d = some sh) : ∃ l k, d = .tup l ∧ shOf l = some (sh, k) ∧ keyT d = k := by
  cases d with
  | tup l =>
    obtain ⟨⟨sh', k⟩, e1, e2⟩ := Option.map_eq_some_iff.mp (show (shOf l).map (·.1) = some sh from h)
    cases e2
    exact ⟨l, k, rfl, e1, by show (match shOf l with | some p => p.2 | none => []) = k; rw [e1]⟩
  | _ => cases h
theorem shs_in (hK : X.K = G.K) (I : Inv X pins σ H s) {sh : List Sh1} : ∀ {ds : List D} {xs : List V} {us : List Value}, Reps G H ds xs → (∀ d ∈ ds, shD d = some sh) → Vals xs us →
    us.map (kSh s.heap sh) = ds.map keyT ∧ (∀ u ∈ us, ∃ k, IsSh s.heap sh u k) ∧ (∀ u ∈ us, ∃ a, u = Value.ref a) ∧ xs = us.map backV
  | [], xs, us, h, _, r => by
    obtain rfl := h.nil_inv
    cases r
    exact ⟨rfl, fun u hu => (by cases hu), fun u hu => (by cases hu), rfl⟩
  | d :: ds, xs, us, h, hd, r => by
    obtain ⟨v, rr, rfl, h1, h2⟩ := h.cons_inv
    cases r with
    | cons r1 r2 =>
      rename_i u us
      obtain ⟨i1, i2, i3, i4⟩ := shs_in hK I h2 (fun e he => hd e (List.mem_cons_of_mem _ he)) r2
      obtain ⟨l, k, rfl, e1, e2⟩ := shD_tup (hd d List.mem_cons_self)
      simp only [Rep] at h1
      obtain ⟨a, vs, rfl, hs, hv⟩ := h1
      cases r1
      obtain ⟨its, rv, ⟨o, ho, hc, n, hdd⟩, _⟩ := I.tuple (show SqT X.K H a vs from .inl (.inl hs))
      have ti : IsSh s.heap sh (.ref a) k := ⟨a, o, its.toArray, n, rfl, ho, hc, hdd, by simpa using items_sh hK I hv rv e1⟩
      refine ⟨by rw [List.map_cons, List.map_cons, i1, kSh_eq ti, e2], fun u hu => ?_, fun u hu => ?_, by rw [List.map_cons, ← i4]; rfl⟩
      · rcases List.mem_cons.mp hu with rfl | hu
        · exact ⟨k, ti⟩
        · exact i2 u hu
      · rcases List.mem_cons.mp hu with rfl | hu
        · exact ⟨a, rfl⟩
        · exact i3 u hu
end
theorem cr_sortN {X : Cx} (hu : X.A.units + 64 < cLine) : CallR X (.builtin "sorted") (rSortN ⟨X.prog, X.w, X.K, X.mg, X.base⟩) := by
  intro pins s σ H vs us Q I r h
  obtain ⟨a, xs, n, sh, ds, rfl, hs, hr, hd, q⟩ := h
  obtain ⟨u, rfl, ru⟩ := vals1 r
  obtain rfl : u = Value.ref a := ru
  obtain ⟨its, rv, hz', go⟩ := sort_src I hs
  obtain ⟨e1, e2, e3, e4⟩ := shs_in (G := ⟨X.prog, X.w, X.K, X.mg, X.base⟩) rfl I hr hd rv
  have hk : ∀ u ∈ its, IsSh s.heap (.t n :: sh) u (kSh s.heap (.t n :: sh) u) := fun u hu => by
    obtain ⟨k, x⟩ := e2 u hu
    rw [kSh_eq x]
    exact x
  have hu2 : X.A.in1.in1.units < cLine := by
    show X.A.units + 1 + 1 < cLine
    omega
  refine go (swo_lexK (kSh s.heap (.t n :: sh))) (fun h2 h1 c hc kk => ?_) fun out s1 s2 => ?_
  · refine sh_sortable (s := { s with heap := h1 }) hu2 (by omega) (fun v hm => (hk v hm).keeps fun b o e _ => (kk b o e).2) fun o e => ?_
    have e' : some o = some (seqObj "list" its.toArray 0) := e.symm.trans hc
    cases e'
    intro z
    exact absurd (Value.type.inj z) (by decide)
  · obtain ⟨ep, he'⟩ := PyProof.Rows.sortedAll_at s.heap its out.toArray
    have ho : ∀ u ∈ out, ∃ a, u = Value.ref a := fun u hu => e3 u (s2.perm.mem_iff.mp hu)
    have hp : (out.map fun u => (backV u, kSh s.heap (.t n :: sh) u)).Perm (xs.zip (ds.map keyT)) := by
      rw [e4, ← e1, List.zip_map']
      exact s2.perm.map _
    have hsrt : out.map (kSh s.heap (.t n :: sh)) = sortT (ds.map keyT) := by
      refine sortT_eq ?_ ?_
      · rw [← e1]; exact s2.perm.map _
      · rw [List.pairwise_map]
        exact s1.imp fun {a b} h => by
          have h' : HT.lexLt (kSh s.heap (.t n :: sh) b) (kSh s.heap (.t n :: sh) a) = false := h
          unfold lexLe
          rw [h']; rfl
    have q' := q (out.map fun u => (backV u, kSh s.heap (.t n :: sh) u)) (s.heap.objs.size + 1) hp (by rw [List.map_map]; exact hsrt) (I.hok.fresh (Nat.le_succ _))
    rw [List.map_map] at q'
    refine ⟨.ref _, upd H (s.heap.objs.size + 1) (.lst (out.map backV)), I.laid (t' := s.toks) (fun b o e => sortedAll_kept e) (Nat.le_succ _) ⟨?_, out, ep, vals_back ho, he'⟩, rfl, q'⟩
    rw [List.length_map, s2.len]
    exact hz'
end M
set_option Elab.async false
set_option linter.all false
set_option maxRecDepth 100000
set_option maxHeartbeats 2000000
/-! M: list and sorted of dicts, min and max of tuples. -/
namespace M
open PySem L2 PySem.Spec PyProof.Rows
section
variable {G : Glob} {P H : Hp}
/-- the keys' own tuples are put among what is for good -/
theorem keys_laid : ∀ {kvs : List (List Key × V)} {bs : List Addr} {P : Hp}, Same P H → IsKeys H kvs bs → ∃ P', Gr P H P' H ∧ Reps G P' (kvs.map fun p => D.tup (p.1.map keyD)) (bs.map V.ref)
  | [], _, P, s, h => by
    cases h
    exact ⟨P, Gr.refl s, Reps.nil⟩
  | p :: kvs, _, P, s, h => by
    cases h with
    | @cons _ b _ bs h1 h2 =>
      have kk : ∀ {P' : Hp} (ks : List Key), Reps G P' (ks.map keyD) (ks.map kV) := by
        intro P' ks
        induction ks with
        | nil => exact Reps.nil
        | cons k ks ih =>
          refine Reps.cons ?_ ih
          cases k with
          | inl i => simp only [keyD, Rep]; rfl
          | inr i => simp only [keyD, Rep]; rfl
      obtain ⟨P1, g1, hb⟩ : ∃ P1, Gr P H P1 H ∧ P1 b = some (.tup (p.1.map kV)) := by
        cases q : P b with
        | some o =>
          have e := s _ _ q
          rw [h1] at e
          cases e
          exact ⟨P, Gr.refl s, q⟩
        | none =>
          refine ⟨upd P b (.tup (p.1.map kV)), ⟨same_new q, Same.refl _, fun a o e => ?_, fun a o e => ?_⟩, upd_same⟩
          · by_cases ha : a = b
            · rw [ha, upd_same] at e; cases e; rw [ha]; exact h1
            · rw [upd_ne ha] at e; exact s _ _ e
          · by_cases ha : a = b
            · rw [ha, upd_same] at e; cases e; rw [ha]; exact .inr (.inr ⟨_, rfl, h1⟩)
            · rw [upd_ne ha] at e; exact .inl e
      obtain ⟨P2, g2, r2⟩ := keys_laid g1.ph h2
      refine ⟨P2, g1.trans g2, Reps.cons ?_ r2⟩
      simp only [Rep]
      exact ⟨b, _, rfl, g2.pp _ _ hb, kk _⟩
end
/-- sorted(d), keys tuples of ints -/
def rSortDT : List V → Hp → VK → Prop := fun vs H Q => ∃ (a : Addr) (kvs : List (List Key × V)) (ts : List (List Int)), vs = [.ref a] ∧ Rd H a (.dT kvs) ∧ kvs.map (·.1) = ts.map (fun t => t.map Sum.inl) ∧ (∀ t ∈ ts, t ≠ []) ∧
  ∀ (bs : List Addr) (zs : List (V × List Int)) p, IsKeys H kvs bs → zs.Perm ((bs.map V.ref).zip ts) → zs.map (·.2) = sortT ts → H p = none → Q (.ref p) (upd H p (.lst (zs.map (·.1))))
def rSortDK : List V → Hp → VK → Prop := fun vs H Q => ∃ (a : Addr) (kvs : List (Key × V)) (ns : List Int), vs = [.ref a] ∧ Rd H a (.dK kvs) ∧ kvs.map (·.1) = ns.map Sum.inl ∧
  ∀ p, H p = none → Q (.ref p) (upd H p (.lst ((sortI ns).map V.int)))
theorem keys_tups {G : Glob} {H : Hp} : ∀ {kvs : List (List Key × V)} {ts : List (List Int)} {bs : List Addr}, kvs.map (·.1) = ts.map (fun t => t.map Sum.inl) → IsKeys H kvs bs → Reps G H (ts.map fun t => D.tup (t.map D.int)) (bs.map V.ref)
  | [], [], _, _, h => by cases h; exact Reps.nil
  | [], _ :: _, _, e, _ => by simp at e
  | _ :: _, [], _, e, _ => by simp at e
  | p :: kvs, t :: ts, _, e, h => by
    cases h with
    | @cons _ b _ bs h1 h2 =>
      rw [List.map_cons, List.map_cons, List.cons.injEq] at e
      refine Reps.cons ?_ (keys_tups e.2 h2)
      have h1 : H b = some (.tup (p.1.map kV)) := h1
      rw [e.1, List.map_map] at h1
      simp only [Rep]
      exact ⟨b, _, rfl, h1, ints_reps G H t⟩
section
variable {X : Cx}
theorem sort_dict {pins : List (Addr × Obj)} {σ : L2.St} {H : Hp} {s : Shared} {d : Addr} {us : List Value} {T : List Value → Prop} {Q : Value → Shared → Prop}
    (I : Inv X pins σ H s)
    (hcol : ∀ (R : List Value → Shared → Prop), (∀ (h' : Heap) (tk : Nat) (us : List Value), (∀ b o, s.heap.get? b = some o → h'.get? b = some o) → T us → us.length ≤ sizeLine → R us { s with heap := h', toks := tk }) → wpAny (model X.prog X.w) X.A.in1 (collect (.ref d)) R X.xe s)
    (h : ∀ (h' : Heap) (tk : Nat) (us : List Value), (∀ b o, s.heap.get? b = some o → h'.get? b = some o) → T us → Inv X pins σ H { s with heap := h', toks := tk } → us.length ≤ sizeLine → ∃ ltv : Value → Value → Bool, SrtO.Swo ltv ∧
      (2 ≤ us.length → ∀ (h1 : Heap) (c : Addr), h1.get? c = some (seqObj "list" us.toArray 0) → (∀ b u, h'.get? b = some u → b ≠ c ∧ h1.get? b = some u) → SrtO.SortableO X.prog X.w X.A.in1.in1 { s with heap := h1, toks := tk } c us ltv) ∧
      ∀ (out : List Value) (e : Nat), SrtO.Srtd ltv out → SrtO.Stb ltv out us → ∀ h2 : Heap, (∀ b u, h'.get? b = some u → h2.get? b = some u) → h2.get? h'.objs.size = some (seqObj "list" out.toArray e) → Q (.ref h'.objs.size) { s with heap := h2, toks := tk }) :
    wpAny (model X.prog X.w) X.A (call (.builtin "sorted") [.ref d]) Q X.xe s := by
  refine Calls.call_function_entry PyProof.Rows.kind_sorted PyProof.Rows.plain_sorted PyProof.Rows.entry_sorted (PyProof.Rows.args_sorted1 _) ?_
  unfold Builtin.«sorted»
  refine wpAny_bind (m := checkCount "sorted" 1 1 _) (wpAny_pure ?_)
  refine wpAny_bind (hcol _ fun h' tk us hk ht hz => ?_)
  have I1 : Inv X pins σ H { s with heap := h', toks := tk } := I.kept hk
  obtain ⟨ltv, O, hS, fin⟩ := h h' tk us hk ht I1 hz
  refine wpAny_bind (wpAny_newList ?_ hz)
  have hoL : (h'.push (seqObj "list" us.toArray 0)).get? h'.objs.size = some (seqObj "list" us.toArray 0) := Heap.get?_push_size _ rfl
  show wpAny _ _ _ _ _ { s with heap := h'.push (seqObj "list" us.toArray 0), toks := tk }
  refine wpAny_bind (wpAny_holding (wpAny_call_entry PyProof.Rows.slot_list_sort ⟨_, hoL, rfl⟩ PyProof.Rows.entry_list_sort
    (SrtO.list_sort_ord (s := { s with heap := h'.push (seqObj "list" us.toArray 0), toks := tk }) O hoL hz (fun h2 => hS h2 _ _ hoL fun b u q => ⟨Nat.ne_of_lt (Heap.lt_size q), Heap.get?_push_of_some _ q⟩) fun out g1 g2 => ⟨_, rfl, ?_⟩) (PyProof.Rows.args_list_sort _)))
  obtain ⟨e', he'⟩ := PyProof.Rows.sortedHeap_at (vs := us) (out := out.toArray) hoL
  refine wpAny_pure ⟨_, rfl, fin out e' g1 g2 _ (fun b u e => ?_) he'⟩
  have hb : b < h'.objs.size := Heap.lt_size e
  rw [PyProof.Rows.sortedHeap_old (Nat.ne_of_lt hb) (by rw [size_push']; exact Nat.lt_succ_of_lt hb)]
  exact Heap.get?_push_of_some _ e
theorem cr_sortDT (hc : X.calm = true) : CallR X (.builtin "sorted") rSortDT := by
  intro pins s σ H xs us Q I r h
  obtain ⟨d, kvs, ts, rfl, hd, hkt, hne, q⟩ := h
  rw [Vals.ref1 r]
  obtain ⟨z, hs, ks, pr, o, es, ep, ho, hx, hdt, he, hn⟩ := (show ObjOk X.prog X.w H s.heap d (.dT kvs) from hd.ok I.hok)
  have l1 : es.size = ks.length := size_of_entries he
  have l2 : kvs.length = ks.length := Paired.length pr
  have hik : IsKeys H kvs (ks.map fun x => x.2.1) := isKeys_of pr
  generalize hbs : (ks.map fun x => x.2.1) = bs at hik
  refine sort_dict (us := []) (T := fun us => us = bs.map Value.ref) I (fun R hR => ?_) fun h' tk us hk ht I1 hz => ?_
  · refine PySem.W.kdu_collect (A := X.A.in1) (kdl_raw hs hx hdt) (I.ok.hd hc) ho (by omega) fun h' tk acc kp it => ?_
    refine hR h' tk acc.toList kp ?_ (by rw [Array.length_toList, it.1]; omega)
    have ea : acc.toList = ks.map fun x => Value.ref x.2.1 := by
      have hl : acc.toList.length = ks.length := by rw [Array.length_toList, it.1]; exact l1
      apply List.ext_getElem?
      intro j
      rw [List.getElem?_map]
      cases hj : acc.toList[j]? with
      | none =>
        have h1 := List.getElem?_eq_none_iff.mp hj
        rw [List.getElem?_eq_none (by omega)]
        all_goals rfl
      | some v =>
        obtain ⟨en, hen, hv⟩ := it.2 j v (by rw [← Array.getElem?_toList]; exact hj)
        have qe := entry_at he j
        rw [hen] at qe
        cases hb : ks[j]? with
        | none =>
          rw [hb] at qe
          exact nomatch (show some en = none from qe)
        | some b =>
          rw [hb] at qe
          have e2 : en = entryOfKey (tupleKind (mixKind X.prog X.w)) b := Option.some.inj qe
          rw [hv, e2]
          all_goals rfl
    rw [ea, ← hbs, List.map_map]
    all_goals rfl
  · subst ht
    have hr : Reps (⟨X.prog, X.w, X.K, X.mg, X.base⟩ : Glob) H (ts.map fun t => D.tup (t.map D.int)) (bs.map V.ref) := keys_tups hkt hik
    obtain ⟨e1, e2, e3, e4⟩ := tups_in (G := ⟨X.prog, X.w, X.K, X.mg, X.base⟩) rfl I1 hr (vals_refs bs)
    have hk' : ∀ u ∈ bs.map Value.ref, IsTI h' u (kOf h' u) ∧ kOf h' u ≠ [] := fun u hu => by
      obtain ⟨t, m, ti⟩ := e2 u hu
      have ti' : IsTI h' u t := ti
      rw [kOf_eq ti']
      exact ⟨ti', hne t m⟩
    refine ⟨_, swo_lexK (kOf h'), fun h2 h₁ a' ha kk => ?_, fun out e h1 h2 h3 kp3 ho3 => ?_⟩
    · refine tups_sortableO (s := { s with heap := h₁, toks := tk }) (by omega) (fun v hm => ⟨(hk' v hm).1.keeps fun b o e _ => (kk b o e).2, (hk' v hm).2⟩) fun o e => ?_
      have e' : some o = some (seqObj "list" (bs.map Value.ref).toArray 0) := e.symm.trans ha
      cases e'
      intro c
      exact absurd (Value.type.inj c) (by decide)
    · have ho : ∀ u ∈ out, ∃ a, u = Value.ref a := fun u hu => e3 u (h2.perm.mem_iff.mp hu)
      have hp : (out.map fun u => (backV u, kOf h' u)).Perm ((bs.map V.ref).zip ts) := by
        have e1' : (bs.map Value.ref).map (kOf h') = ts := e1
        rw [e4, ← e1', List.zip_map']
        exact h2.perm.map _
      have hsrt : (out.map (kOf h')) = sortT ts := by
        refine sortT_eq ?_ ?_
        · have e1' : (bs.map Value.ref).map (kOf h') = ts := e1
          rw [← e1']; exact h2.perm.map _
        · rw [List.pairwise_map]
          exact h1.imp fun {a b} h => by
            have h' : HT.lexLt (kOf h' b) (kOf h' a) = false := h
            unfold lexLe
            rw [h']; rfl
      have q' := q bs (out.map fun u => (backV u, kOf h' u)) h'.objs.size hik hp (by rw [List.map_map]; exact hsrt) (I1.hok.fresh (Nat.le_refl _))
      rw [List.map_map] at q'
      refine ⟨.ref _, upd H h'.objs.size (.lst (out.map backV)), I1.laid (t' := tk) (fun b u e => kp3 b u e) (Nat.le_refl _) (show ObjOk X.prog X.w _ _ _ (.lst (out.map backV)) from ⟨?_, out, e, vals_back ho, ho3⟩), rfl, q'⟩
      rw [List.length_map, h2.len]
      exact hz
theorem cr_sortDK (hc : X.calm = true) : CallR X (.builtin "sorted") rSortDK := by
  intro pins s σ H xs us Q I r h
  obtain ⟨d, kvs, ns, rfl, hd, hks, q⟩ := h
  rw [Vals.ref1 r]
  obtain ⟨z, lo, vs, rel, dd⟩ := dk_rd I.hok hd
  obtain ⟨ep, hat⟩ := dd.dictAt
  have hkeys : vs.map (·.1) = ns.map Sum.inl := rel.keys.symm.trans hks
  have hl : vs.length = ns.length := by
    have e := congrArg List.length hkeys
    rw [List.length_map, List.length_map] at e
    exact e
  have hl2 : kvs.length = vs.length := Paired.length rel
  refine sort_dict (us := []) (T := fun us => IntsAre us ns) I (fun R hR => ?_) fun h' tk us hk hi I1 hz => ?_
  · refine PySem.W.kdu_collect (A := X.A.in1) (PySem.W.kdl_dict (knd := mixKind X.prog X.w) (kvs := vs) (ep := ep) lo) (I.ok.hd hc) hat (by rw [← hl2]; exact z) fun h' tk acc hk hacc => ?_
    have hal : acc.toList.length = ns.length := by rw [Array.length_toList, hacc.1, hl]
    refine hR h' tk acc.toList hk (ints_each hal fun j v e => ?_) (by rw [hal, ← hl, ← hl2]; exact z)
    obtain ⟨k, x, e1, e2⟩ := hacc.2 j v (by rw [← Array.getElem?_toList]; exact e)
    have e3 : (vs.map (·.1))[j]? = some k := by rw [List.getElem?_map, e1]; rfl
    rw [hkeys, List.getElem?_map] at e3
    cases e4 : ns[j]? with
    | none => rw [e4] at e3; cases e3
    | some y =>
      rw [e4] at e3
      have e5 : Sum.inl y = k := Option.some.inj e3
      subst e5
      rcases keyIs_shape (show keyIs (Sum.inl y) v = true from e2) with ⟨i, t, ek, ev⟩ | ⟨z, t, ek, ev⟩
      · cases ek
        exact ⟨y, t, rfl, ev⟩
      · cases ek
  · refine ⟨_, SrtO.swo_int, fun h2 h₁ a' _ _ => SrtO.ints_sortable hi h2, fun out e h1 h2 h3 kp3 ho3 => ?_⟩
    obtain ⟨k1, k2, k3⟩ := SrtO.ints_out hi h1 h2
    have ee : out.map SrtO.iv = sortI ns := sortI_eq k2 k3
    have hlen : ((sortI ns).map V.int).length ≤ sizeLine := by
      rw [List.length_map, (sortI_perm ns).length_eq, ← hi.length]
      exact hz
    refine ⟨.ref _, upd H h'.objs.size (.lst ((sortI ns).map V.int)), I1.laid (t' := tk) (fun b u e => kp3 b u e) (Nat.le_refl _) (show ObjOk X.prog X.w _ _ _ (.lst ((sortI ns).map V.int)) from ⟨hlen, out, e, ?_, ho3⟩), rfl, q _ (I1.hok.fresh (Nat.le_refl _))⟩
    rw [← ee]
    exact vals_of_ints k1
end
/-- max(t), min(t) of a tuple of ints -/
def rMaxT (K : PySem.W.Frag) : List V → Hp → VK → Prop := fun vs H Q => ∃ (a : Addr) (ns : List Int), vs = [V.ref a] ∧ SqT K H a (ns.map V.int) ∧ 0 < ns.length ∧ ∀ m, m ∈ ns → (∀ y, y ∈ ns → y ≤ m) → Q (.int m) H
def rMinT (K : PySem.W.Frag) : List V → Hp → VK → Prop := fun vs H Q => ∃ (a : Addr) (ns : List Int), vs = [V.ref a] ∧ SqT K H a (ns.map V.int) ∧ 0 < ns.length ∧ ∀ m, m ∈ ns → (∀ y, y ∈ ns → m ≤ y) → Q (.int m) H
section
variable {prog : Program} {w : World} {A : Around} {E : Value → Shared → Prop} {s : Shared} {t : Addr}
theorem iter_tup {items : Array Value} {Q : Value → Shared → Prop} (hl : s.heap.IsTuple t items)
    (h : ∀ s₂ : Shared, s₂ = { s with heap := s.heap.push { cls := .type "tuple_iterator", data := .fields #[.ref t, .int 0 0] } } →
      (s₂.heap.IsTupleIter s.heap.objs.size t 0 ∧ s₂.heap.IsTuple t items) → (∀ b ∈ [s.heap.objs.size, t], b < s₂.heap.objs.size) → t ≠ s.heap.objs.size → Q (.ref s.heap.objs.size) s₂) :
    wpAny (model prog w) A (pyIter (.ref t)) Q E s := by
  have hlt : t < s.heap.objs.size := by obtain ⟨_, e, _⟩ := hl; exact Heap.lt_size e
  refine wpAny_pyIter_tuple hl (h _ rfl ⟨⟨_, Heap.get?_push_size _ rfl, rfl, rfl⟩, ?_⟩ (fun b hb => ?_) (Nat.ne_of_lt hlt))
  · obtain ⟨o, e, c⟩ := hl
    exact ⟨o, Heap.get?_push_of_some _ e, c⟩
  · show b < (s.heap.push _).objs.size
    rw [Heap.size_push]
    rcases List.mem_cons.mp hb with rfl | hb
    · exact Nat.lt_succ_self _
    · rcases List.mem_cons.mp hb with rfl | hb
      · exact Nat.lt_succ_of_lt hlt
      · cases hb
theorem kept_tup {h' : Heap} (hk : ∀ b o, b ∉ [s.heap.objs.size] → (s.heap.push { cls := .type "tuple_iterator", data := .fields #[.ref t, .int 0 0] }).get? b = some o → h'.get? b = some o) :
    ∀ b o, s.heap.get? b = some o → h'.get? b = some o := fun b o e => by
  refine hk b o (fun hm => ?_) (Heap.get?_push_of_some _ e)
  rcases List.mem_cons.mp hm with e1 | hm
  · exact absurd (e1 ▸ Heap.lt_size e) (Nat.lt_irrefl _)
  · cases hm
theorem max_tup {xs : Array (Int × Tok)} {Q : Value → Shared → Prop} (hh : A.handled = none) (hl : s.heap.IsTuple t (intItems xs)) (hne : 0 < xs.size)
    (h : ∀ v h' tk, (intItems xs)[argBest (fun i j => decide (numAt xs i > numAt xs j)) (xs.size - 1)]? = some v → (∀ b o, s.heap.get? b = some o → h'.get? b = some o) → Q v { s with heap := h', toks := tk }) :
    wpAny (model prog w) A (call (.builtin "max") [.ref t]) Q E s := by
  refine call_max_walk (iter_tup hl fun s₂ e st hfp hlI => ?_)
  subst e
  refine ⟨_, _, _, _, _, _, _, rfl, Walks.tuple (A := A.in1) hh _ t hlI (intItems xs), st, hfp, by simpa [intItems] using hne, CmpOf.ints_gt (numAt xs) (fun _ _ => intItems_at), fun v h' tk hP hk => ?_⟩
  exact h v h' tk (by simpa [intItems] using hP) (kept_tup hk)
theorem min_tup {xs : Array (Int × Tok)} {Q : Value → Shared → Prop} (hh : A.handled = none) (hl : s.heap.IsTuple t (intItems xs)) (hne : 0 < xs.size)
    (h : ∀ v h' tk, (intItems xs)[argBest (fun i j => decide (numAt xs i < numAt xs j)) (xs.size - 1)]? = some v → (∀ b o, s.heap.get? b = some o → h'.get? b = some o) → Q v { s with heap := h', toks := tk }) :
    wpAny (model prog w) A (call (.builtin "min") [.ref t]) Q E s := by
  refine call_min_walk (iter_tup hl fun s₂ e st hfp hlI => ?_)
  subst e
  refine ⟨_, _, _, _, _, _, _, rfl, Walks.tuple (A := A.in1) hh _ t hlI (intItems xs), st, hfp, by simpa [intItems] using hne, CmpOf.ints_lt (numAt xs) (fun _ _ => intItems_at), fun v h' tk hP hk => ?_⟩
  exact h v h' tk (by simpa [intItems] using hP) (kept_tup hk)
theorem minT_raw {its : List Value} {ns : List Int} {Q : Value → Shared → Prop} (hh : A.handled = none) (hl : s.heap.IsTuple t its.toArray) (hi : IntsAre its ns) (hne : 0 < ns.length)
    (h : ∀ h' tk M t', (∀ b o, s.heap.get? b = some o → h'.get? b = some o) → M ∈ ns → (∀ a, a ∈ ns → M ≤ a) → Q (.int M t') { s with heap := h', toks := tk }) : wpAny (model prog w) A (call (.builtin "min") [.ref t]) Q E s := by
  obtain ⟨xs, e⟩ := hi.allInts.items
  have hn : numsOf (intItems xs).toList = ns := by rw [← e]; exact hi.numsOf
  rw [nums_intItems] at hn
  subst hn
  rw [e] at hl
  have hsz : 0 < xs.size := by simpa using hne
  refine min_tup hh hl hsz fun v h' tk hv hk => ?_
  obtain ⟨t, rfl⟩ := intItems_at hv
  obtain ⟨h1, h2⟩ := argBest_lt (numAt xs) (xs.size - 1)
  refine h h' tk _ t hk ?_ fun a ha => ?_
  · rw [numAt_eq]; exact PySem.getD_mem (by rw [List.length_map, Array.length_toList]; omega)
  · obtain ⟨j, hj, rfl⟩ := mem_getD ha
    rw [List.length_map, Array.length_toList] at hj
    rw [← numAt_eq]; exact h2 j (by omega)
theorem maxT_raw {its : List Value} {ns : List Int} {Q : Value → Shared → Prop} (hh : A.handled = none) (hl : s.heap.IsTuple t its.toArray) (hi : IntsAre its ns) (hne : 0 < ns.length)
    (h : ∀ h' tk M t', (∀ b o, s.heap.get? b = some o → h'.get? b = some o) → M ∈ ns → (∀ a, a ∈ ns → a ≤ M) → Q (.int M t') { s with heap := h', toks := tk }) : wpAny (model prog w) A (call (.builtin "max") [.ref t]) Q E s := by
  obtain ⟨xs, e⟩ := hi.allInts.items
  have hn : numsOf (intItems xs).toList = ns := by rw [← e]; exact hi.numsOf
  rw [nums_intItems] at hn
  subst hn
  rw [e] at hl
  have hsz : 0 < xs.size := by simpa using hne
  refine max_tup hh hl hsz fun v h' tk hv hk => ?_
  obtain ⟨t, rfl⟩ := intItems_at hv
  obtain ⟨h1, h2⟩ := argBest_gt (numAt xs) (xs.size - 1)
  refine h h' tk _ t hk ?_ fun a ha => ?_
  · rw [numAt_eq]; exact PySem.getD_mem (by rw [List.length_map, Array.length_toList]; omega)
  · obtain ⟨j, hj, rfl⟩ := mem_getD ha
    rw [List.length_map, Array.length_toList] at hj
    rw [← numAt_eq]; exact h2 j (by omega)
end
section
variable {X : Cx}
theorem cr_maxT (hc : X.calm = true) : CallR X (.builtin "max") (rMaxT X.K) := by
  intro pins s σ H vs us Q I r h
  obtain ⟨a, ns, rfl, hs, hne, q⟩ := h
  obtain ⟨its, rv, hl, _⟩ := I.tuple hs
  rw [Vals.ref1 r]
  exact maxT_raw (I.ok.hd hc) hl rv.ints hne fun h' tk m t' hk h1 h2 => ⟨.int _, H, I.kept hk, ⟨_, rfl⟩, q m h1 h2⟩
theorem cr_minT (hc : X.calm = true) : CallR X (.builtin "min") (rMinT X.K) := by
  intro pins s σ H vs us Q I r h
  obtain ⟨a, ns, rfl, hs, hne, q⟩ := h
  obtain ⟨its, rv, hl, _⟩ := I.tuple hs
  rw [Vals.ref1 r]
  exact minT_raw (I.ok.hd hc) hl rv.ints hne fun h' tk m t' hk h1 h2 => ⟨.int _, H, I.kept hk, ⟨_, rfl⟩, q m h1 h2⟩
end
end M
set_option Elab.async false
set_option linter.all false
set_option maxRecDepth 100000
set_option maxHeartbeats 2000000
/-! M, part D: subscripts, slices, built-ins by values. -/
namespace M
open PySem L2 PySem.Spec PyProof.Rows

abbrev gl (X : Cx) : Glob := ⟨X.prog, X.w, X.K, X.mg, X.base⟩
section
variable {G : Glob} {P H : Hp}
theorem Reps.atI {ds : List D} {vs : List V} {i : Int} {d : D} (h : Reps G H ds vs) (e : L2.atI ds i = some d) : ∃ v, L2.atI vs i = some v ∧ Rep G H d v := by
  unfold L2.atI at e ⊢
  rw [Option.bind_eq_some_iff] at e
  obtain ⟨j, e1, e2⟩ := e
  obtain ⟨v, e3, r⟩ := h.get e2
  refine ⟨v, ?_, r⟩
  rw [h.length, e1]
  exact e3
theorem R.of_ok {α : Type} {o : Option α} {a : α} (h : R.of o = .ok a) : o = some a := by
  cases o with
  | none => cases h
  | some b => cases h; rfl
def rDGet : R2 := fun x y H Q => ∃ a w, x = .ref a ∧ DGet H a y (some w) ∧ Q w H
theorem ix_dict {X : Cx} (hu : X.A.units + 65 < cLine) : IxR X rDGet := by
  intro value slice pins s σ H x y v u Q I rx ry h hs
  obtain ⟨a, w, rfl, g, q⟩ := h
  cases rx
  exact tail_any (dict_typeIs I g) PySem.F.slot_dict_getitem.lookup (d_getItem (by omega) I g ry fun w' s' J rw' => ⟨w, H, J, rw', q⟩) hs
def rIxM (K : PySem.W.Frag) : R2 := fun x y H Q => rIx K x y H Q ∨ rDGet x y H Q
theorem ix_M {X : Cx} (hu : X.A.units + 65 < cLine) : IxR X (rIxM X.K) := ix_seq.or (ix_dict hu)
theorem idx_ok {x y d : D} {v u : V} {Q : VK} (s : Same P H) (hx : Val G P H x v) (hy : Val G P H y u) (e : idxD x y = .ok d)
    (q : ∀ w, Rep G P d w → Q w H) : rIxM G.K v u H Q := by
  unfold idxD at e
  split at e
  · obtain ⟨a, vs, rfl, h1, h2⟩ := hx.lst s
    rw [hy.int]
    obtain ⟨w, e1, r⟩ := h2.atI (R.of_ok e)
    exact .inl (.inl ⟨a, vs, _, w, rfl, rfl, .of h1, e1, q w r⟩)
  · obtain ⟨a, vs, rfl, h1, h2⟩ := hx.scr s
    rw [hy.int]
    obtain ⟨w, e1, r⟩ := h2.atI (R.of_ok e)
    exact .inl (.inl ⟨a, vs, _, w, rfl, rfl, h1, e1, q w r⟩)
  · obtain ⟨a, vs, rfl, _, h1, h2⟩ := hx.tup s
    rw [hy.int]
    obtain ⟨w, e1, r⟩ := h2.atI (R.of_ok e)
    exact .inl (.inr (.inl ⟨a, vs, _, w, rfl, rfl, h1, e1, q w r⟩))
  · split at e
    · rename_i hk
      obtain ⟨a, o, rfl, g, _, k, _⟩ := dget_of s hx hy hk
      obtain ⟨w, rfl, r⟩ := k _ (R.of_ok e)
      exact .inr ⟨a, w, rfl, g, q w r⟩
    · cases e
  · cases e
def rSlM (K : PySem.W.Frag) : V → Option Int → Option Int → Hp → VK → Prop := fun x lo hi H Q => rSlL K x lo hi H Q ∨ rSlA K x lo hi H Q ∨ rSlS x lo hi H Q
theorem sl_M {X : Cx} : SlR X (rSlM X.K) := SlR.or sl_list (SlR.or sl_tupA sl_str)
theorem slc_ok {x d : D} {v : V} {lo hi : Option Int} {Q : VK} (s : Same P H) (hx : Val G P H x v) (e : sliceD x lo hi = .ok d)
    (q : ∀ w P' H', Gr P H P' H' → ResD G H P' H' d w → Q w H') : rSlM G.K v lo hi H Q := by
  unfold sliceD at e
  split at e
  · cases e
    obtain ⟨a, vs, rfl, h1, h2⟩ := hx.lst s
    exact .inl ⟨a, vs, rfl, .of h1, fun p hp => q _ P _ (Gr.made s hp) (FreshAt.laid s (h2.cut lo hi) hp)⟩
  · cases e
    obtain ⟨a, vs, rfl, h1, h2⟩ := hx.scr s
    exact .inl ⟨a, vs, rfl, h1, fun p hp => q _ P _ (Gr.made s hp) (FreshAt.laid s (h2.cut lo hi) hp)⟩
  · rename_i l
    cases e
    obtain ⟨a, vs, rfl, h0, h1, h2⟩ := hx.tupX s
    refine .inr (.inl ⟨a, vs, rfl, h1, fun hw => ?_, fun _ p hp => q _ _ _ (Gr.laid s hp) (Rep.tup_laid (h2.cut lo hi) (s.free hp))⟩)
    have z : cut l lo hi = l := by
      unfold cut
      rw [← h2.length, hw.1, hw.2, List.drop_zero, Nat.sub_zero, List.take_of_length_le (by rw [h2.length]; exact Nat.le_refl _)]
    rw [z] at q
    refine q _ P H (Gr.refl s) ?_
    show Rep G P (.tup l) _
    simp only [Rep]
    exact ⟨a, vs, rfl, h0, h2⟩
  · split at e
    · rename_i hm
      cases e
      rw [hx.str]
      exact .inr (.inr ⟨_, rfl, hm, q _ P H (Gr.refl s) (by show Rep G P (.str _) _; simp only [Rep])⟩)
    · cases e
  · cases e

/-! ### built-ins of one argument -/
def B1.nm : B1 → Str
  | .len => "len" | .abs => "abs" | .int => "int" | .list => "list" | .tuple => "tuple" | .sorted => "sorted" | .sum => "sum" | .all => "all" | .any => "any" | .max => "max" | .min => "min" | .reprb => "repr"
def B1.isTy : B1 → Bool
  | .int => true | .list => true | .tuple => true
  | _ => false
def B1.id : B1 → String
  | .len => "len" | .abs => "abs" | .int => "int" | .list => "list" | .tuple => "tuple" | .sorted => "sorted" | .sum => "sum" | .all => "all" | .any => "any" | .max => "max" | .min => "min" | .reprb => "repr"
def B1.val (f : B1) : Value := if f.isTy then .type f.id else .builtin f.id
theorem B1.boot (f : B1) : bootBuiltins f.nm = some f.val := by
  cases f <;> decide +kernel
def rB1 (G : Glob) : B1 → List V → Hp → VK → Prop
  | .len => fun xs H Q => (∃ x n, xs = [x] ∧ LenV G.K x H n ∧ Q (.int n) H) ∨ (∃ a kvs, xs = [V.ref a] ∧ Rd H a (.dK kvs) ∧ Q (.int kvs.length) H) ∨ ∃ a kvs, xs = [V.ref a] ∧ Rd H a (.dT kvs) ∧ Q (.int kvs.length) H
  | .abs => fun xs H Q => ∃ i, xs = [.int i] ∧ Q (.int (if i < 0 then -i else i)) H
  | .int => fun xs H Q => (∃ i, xs = [.int i] ∧ Q (.int i) H) ∨ ∃ k, xs = [.bl k] ∧ Q (.int (if k then 1 else 0)) H
  | .list => fun xs H Q => (∃ p ys, xs = [.ref p] ∧ (SqL G.K H p ys ∨ SqT G.K H p ys) ∧ ∀ l, H l = none → Q (.ref l) (upd H l (.lst ys))) ∨
      (∃ (a : Addr) (kvs : List (Key × V)), xs = [.ref a] ∧ Rd H a (.dK kvs) ∧ ∀ p, H p = none → Q (.ref p) (upd H p (.lst (kvs.map fun kv => kV kv.1)))) ∨
      (∃ d kvs, xs = [V.ref d] ∧ Rd H d (.dT kvs) ∧ ∀ p bs, H p = none → IsKeys H kvs bs → Q (.ref p) (upd H p (.lst (bs.map V.ref))))
  | .tuple => fun xs H Q => ∃ p ys, xs = [.ref p] ∧ ((SqL G.K H p ys ∧ ∀ l, H l = none → Q (.ref l) (upd H l (.tup ys))) ∨ (SqT G.K H p ys ∧ Q (.ref p) H))
  | .sorted => fun vs H Q => rSortM G vs H Q ∨ rSortN G vs H Q ∨ rSortDK vs H Q ∨ rSortDT vs H Q
  | .sum => rSum G.K
  | .all => rAll G.K
  | .any => rAny G.K
  | .max => fun vs H Q => rMax G.K vs H Q ∨ rMaxT G.K vs H Q
  | .min => fun vs H Q => rMin G.K vs H Q ∨ rMinT G.K vs H Q
  | .reprb => fun xs H Q => ∃ k, xs = [.bl k] ∧ Q (.str (boolS k)) H
theorem call_reprb {X : Cx} : CallR X (.builtin "repr") (fun xs H Q => ∃ k, xs = [V.bl k] ∧ Q (.str (boolS k)) H) := by
  intro pins s σ H xs us Q I r h
  obtain ⟨b, rfl, q⟩ := h
  obtain ⟨u, rfl, r1⟩ := vals1 r
  cases (show u = Value.bool b from r1)
  exact PySem.P.repr_of_bool ⟨.str (boolS b), H, I.tok _, ⟨_, by cases b <;> rfl⟩, q⟩
theorem call_lenR {X : Cx} : CallR X (.builtin "len") (fun xs H Q => ∃ a kvs, xs = [V.ref a] ∧ Rd H a (.dK kvs) ∧ Q (.int kvs.length) H) := by
  intro pins s σ H xs us Q I r h
  obtain ⟨a, kvs, rfl, ha, q⟩ := h
  rw [Vals.ref1 r]
  exact d_len I ha fun t s' I' => ⟨.int kvs.length, H, I', ⟨t, rfl⟩, q⟩
theorem call_lenRT {X : Cx} : CallR X (.builtin "len") (fun xs H Q => ∃ a kvs, xs = [V.ref a] ∧ Rd H a (.dT kvs) ∧ Q (.int kvs.length) H) := by
  intro pins s σ H xs us Q I r h
  obtain ⟨a, kvs, rfl, ha, q⟩ := h
  rw [Vals.ref1 r]
  obtain ⟨z, hd, ys, rel, dd⟩ := dt_rd I.hok ha
  have hl : kvs.length = ys.length := Paired.length rel
  refine call_len_dictH hd dd (by rw [← hl]; rw [sizeLine_eq] at z; omega) ?_
  rw [← hl]
  exact ⟨.int kvs.length, H, I.tok _, ⟨_, rfl⟩, q⟩
theorem b1_of {X : Cx} (hc : X.calm = true) (hu : X.A.units + 64 < cLine) : ∀ f : B1, CallR X f.val (rB1 (gl X) f)
  | .len => CallR.or call_len (CallR.or call_lenR call_lenRT)
  | .abs => call_abs
  | .int => call_int1
  | .list => CallR.or call_list_of (CallR.or (call_listD hc) (call_list_dT hc))
  | .tuple => call_tuple_of
  | .sorted => CallR.or cr_sortM (CallR.or (cr_sortN hu) (CallR.or (cr_sortDK hc) (cr_sortDT hc)))
  | .sum => cr_sum hc
  | .all => cr_all hc
  | .any => cr_any hc
  | .max => CallR.or (cr_max hc) (cr_maxT hc)
  | .min => CallR.or (cr_min hc) (cr_minT hc)
  | .reprb => call_reprb
/-- which results are new lists -/
def B1.fresh : B1 → Bool
  | .list => true
  | .sorted => true
  | _ => false
def ResB (f : Bool) (G : Glob) (H P' H' : Hp) (d : D) (v : V) : Prop := if f = true then FreshAt G H P' H' d v else Rep G P' d v
theorem zip_reps : ∀ {ts : List (List Int)} {xs : List V}, Reps G P (ts.map fun t => D.tup (t.map D.int)) xs → ∀ p ∈ xs.zip ts, Rep G P (.tup (p.2.map D.int)) p.1
  | [], xs, h, p, hp => by rw [Reps.nil_inv h] at hp; simp at hp
  | t :: ts, xs, h, p, hp => by
    obtain ⟨v, r, rfl, h1, h2⟩ := Reps.cons_inv (d := .tup (t.map D.int)) (ds := ts.map fun t => D.tup (t.map D.int)) h
    rcases List.mem_cons.mp hp with rfl | hp
    · exact h1
    · exact zip_reps h2 p hp
theorem reps_zip : ∀ (zs : List (V × List Int)), (∀ p ∈ zs, Rep G P (.tup (p.2.map D.int)) p.1) → Reps G P (zs.map fun p => D.tup (p.2.map D.int)) (zs.map (·.1))
  | [], _ => Reps.nil
  | z :: zs, h => Reps.cons (h z List.mem_cons_self) (reps_zip zs fun p hp => h p (List.mem_cons_of_mem _ hp))
theorem asTups_map : ∀ {ds : List D} {ts : List (List Int)}, asTups ds = some ts → ds = ts.map fun t => D.tup (t.map D.int)
  | [], ts, h => by simp only [asTups, Option.some.injEq] at h; rw [← h]; rfl
  | .tup l :: r, ts, h => by
    simp only [asTups, Option.bind_eq_some_iff, Option.map_eq_some_iff] at h
    obtain ⟨ns, h1, m, h2, rfl⟩ := h
    rw [asInts_map h1, asTups_map h2]; rfl
  | .non :: _, _, h => by simp [asTups] at h
  | .bl _ :: _, _, h => by simp [asTups] at h
  | .int _ :: _, _, h => by simp [asTups] at h
  | .str _ :: _, _, h => by simp [asTups] at h
  | .lst _ :: _, _, h => by simp [asTups] at h
  | .dic _ _ _ :: _, _, h => by simp [asTups] at h
  | .scr _ :: _, _, h => by simp [asTups] at h
  | .obj _ _ _ :: _, _, h => by simp [asTups] at h
  | .exv _ _ _ :: _, _, h => by simp [asTups] at h
  | .fn _ :: _, _, h => by simp [asTups] at h
theorem shOf_inj : ∀ {l m : List D} {sh : List Sh1} {k : List Int}, shOf l = some (sh, k) → shOf m = some (sh, k) → l = m
  | [], m, sh, k, h, h' => by
    cases h
    cases m with
    | nil => rfl
    | cons y m => cases y <;> simp [shOf, Option.bind_eq_some_iff] at h'
  | x :: l, [], sh, k, h, h' => by
    cases h'
    cases x <;> simp [shOf, Option.bind_eq_some_iff] at h
  | x :: l, y :: m, sh, k, h, h' => by
    cases x <;> cases y <;> simp only [shOf, Option.bind_eq_some_iff, Option.map_eq_some_iff, Prod.mk.injEq, Prod.exists, reduceCtorEq, false_and, and_false, exists_false] at h h'
    case bl.bl b c =>
      obtain ⟨s1, k1, h1, h2, h3⟩ := h
      obtain ⟨s2, k2, g1, g2, g3⟩ := h'
      subst h2 h3
      obtain ⟨-, rfl⟩ := List.cons.inj g2
      obtain ⟨e, rfl⟩ := List.cons.inj g3
      rw [shOf_inj h1 g1]
      congr 2
      cases b <;> cases c <;> first | rfl | (exact absurd e (by decide))
    case int.int b c =>
      obtain ⟨s1, k1, h1, h2, h3⟩ := h
      obtain ⟨s2, k2, g1, g2, g3⟩ := h'
      subst h2 h3
      obtain ⟨-, rfl⟩ := List.cons.inj g2
      obtain ⟨rfl, rfl⟩ := List.cons.inj g3
      rw [shOf_inj h1 g1]
    case tup.tup b c =>
      obtain ⟨ns, a1, s1, k1, h1, h2, h3⟩ := h
      obtain ⟨ms, a2, s2, k2, g1, g2, g3⟩ := h'
      subst h2 h3
      obtain ⟨e, rfl⟩ := List.cons.inj g2
      obtain ⟨rfl, rfl⟩ := app_inj (by simpa using e) g3
      rw [shOf_inj h1 g1, asInts_map a1, asInts_map a2]
    all_goals first
      | (obtain ⟨s1, k1, h1, h2, h3⟩ := h; obtain ⟨ms, a2, s2, k2, g1, g2, g3⟩ := h'; subst h2; cases g2; done)
      | (obtain ⟨ns, a1, s1, k1, h1, h2, h3⟩ := h; obtain ⟨s2, k2, g1, g2, g3⟩ := h'; subst h2; cases g2; done)
      | (obtain ⟨s1, k1, h1, h2, h3⟩ := h; obtain ⟨s2, k2, g1, g2, g3⟩ := h'; subst h2; cases g2; done)
theorem shD_inj {d e : D} {sh : List Sh1} (h : shD d = some sh) (h' : shD e = some sh) (k : keyT d = keyT e) : d = e := by
  obtain ⟨l, k1, rfl, e1, e2⟩ := shD_tup h
  obtain ⟨m, k2, rfl, g1, g2⟩ := shD_tup h'
  rw [e2, g2] at k
  subst k
  rw [shOf_inj e1 g1]
theorem zip_keyed {sh : List Sh1} : ∀ {ds : List D} {xs : List V}, Reps G P ds xs → (∀ d ∈ ds, shD d = some sh) → ∀ p ∈ xs.zip (ds.map keyT), ∃ d, shD d = some sh ∧ Rep G P d p.1 ∧ keyT d = p.2
  | [], xs, h, _, p, hp => by rw [Reps.nil_inv h] at hp; simp at hp
  | d :: ds, xs, h, hd, p, hp => by
    obtain ⟨v, r, rfl, h1, h2⟩ := Reps.cons_inv h
    rcases List.mem_cons.mp hp with rfl | hp
    · exact ⟨d, hd d List.mem_cons_self, h1, rfl⟩
    · exact zip_keyed h2 (fun e he => hd e (List.mem_cons_of_mem _ he)) p hp
theorem reps_keyed {sh : List Sh1} : ∀ (zs : List (V × List Int)) (R : List D), zs.map (·.2) = R.map keyT → (∀ e ∈ R, shD e = some sh) → (∀ p ∈ zs, ∃ d, shD d = some sh ∧ Rep G P d p.1 ∧ keyT d = p.2) → Reps G P R (zs.map (·.1))
  | [], [], _, _, _ => Reps.nil
  | [], _ :: _, h, _, _ => by simp at h
  | _ :: _, [], h, _, _ => by simp at h
  | z :: zs, e :: R, h, hs, hz => by
    obtain ⟨h1, h2⟩ := List.cons.inj h
    obtain ⟨d, a1, a2, a3⟩ := hz z List.mem_cons_self
    have : d = e := shD_inj a1 (hs e List.mem_cons_self) (a3.trans h1)
    subst this
    exact Reps.cons a2 (reps_keyed zs R h2 (fun e he => hs e (List.mem_cons_of_mem _ he)) fun p hp => hz p (List.mem_cons_of_mem _ hp))
theorem sortN_inv {l ds : List D} (e : sortN l = .ok ds) : ∃ n sh, (∀ d ∈ l, shD d = some (.t n :: sh)) ∧ ds.Perm l ∧ ds.map keyT = sortT (l.map keyT) := by
  cases l with
  | nil => cases e
  | cons d r =>
    have e : (match shD d with
      | some (.t n :: sh) => if (d :: r).all (fun e => decide (shD e = some (.t n :: sh))) = true then R.ok ((d :: r).mergeSort fun a b => lexLe (keyT a) (keyT b)) else R.bad
      | _ => R.bad) = R.ok ds := e
    split at e
    · rename_i n sh hh
      split at e
      · rename_i ha
        cases e
        refine ⟨n, sh, fun x hx => of_decide_eq_true (List.all_eq_true.mp ha x hx), List.mergeSort_perm _ _, ?_⟩
        exact List.map_mergeSort fun a _ b _ => rfl
      · cases e
    · cases e
theorem sort_ok {l ds : List D} {a : Addr} {vs : List V} {Q : VK} (s : Same P H) (hs : SqL G.K H a vs ∨ SqT G.K H a vs) (hr : Reps G P l vs) (e : sortD l = .ok ds)
    (q : ∀ w P' H', Gr P H P' H' → FreshAt G H P' H' (.lst ds) w → Q w H') : rSortM G [.ref a] H Q ∨ rSortN G [.ref a] H Q ∨ rSortDK [.ref a] H Q ∨ rSortDT [.ref a] H Q := by
  unfold sortD at e
  split at e
  · rename_i ns hn
    cases e
    obtain rfl := asInts_map hn
    obtain rfl := reps_ints hr
    exact .inl ⟨a, _, rfl, hs, .inl ⟨ns, rfl, fun p hp => q _ P _ (Gr.made s hp) (FreshAt.laid s (ints_reps G P _) hp)⟩⟩
  · split at e
    · rename_i ts ht
      split at e
      · rename_i hne
        cases e
        obtain rfl := asTups_map ht
        refine .inl ⟨a, _, rfl, hs, .inr ⟨ts, fun t m h => ?_, hr.mono s, fun zs p hz he hp => ?_⟩⟩
        · have := List.all_eq_true.mp hne t m
          rw [h] at this
          cases this
        · have h1 := reps_zip zs fun p hp => zip_reps hr p (hz.mem_iff.mp hp)
          have h2 : (zs.map fun p => D.tup (p.2.map D.int)) = (sortT ts).map fun t => D.tup (t.map D.int) := by
            rw [← he, List.map_map]; rfl
          rw [h2] at h1
          exact q _ P _ (Gr.made s hp) (FreshAt.laid s h1 hp)
      · cases e
    · obtain ⟨n, sh, k1, k2, k3⟩ := sortN_inv e
      refine .inr (.inl ⟨a, vs, n, sh, l, rfl, hs, hr.mono s, k1, fun zs p hz he hp => ?_⟩)
      have h1 := reps_keyed zs ds (he.trans k3.symm) (fun x hx => k1 x (k2.mem_iff.mp hx)) fun p hp => zip_keyed hr k1 p (hz.mem_iff.mp hp)
      exact q _ P _ (Gr.made s hp) (FreshAt.laid s h1 hp)
theorem foldl_max_mem : ∀ (ns : List Int) (x : Int), maxI x ns ∈ x :: ns ∧ ∀ y ∈ x :: ns, y ≤ maxI x ns
  | [], x => ⟨List.mem_cons_self, fun y hy => by rw [List.mem_singleton.mp hy]; exact Int.le_refl _⟩
  | n :: ns, x => by
    show maxI (if n > x then n else x) ns ∈ x :: n :: ns ∧ ∀ y ∈ x :: n :: ns, y ≤ maxI (if n > x then n else x) ns
    obtain ⟨h1, h2⟩ := foldl_max_mem ns (if n > x then n else x)
    refine ⟨?_, fun y hy => ?_⟩
    · rcases List.mem_cons.mp h1 with e | h1
      · rw [e]; split
        · exact List.mem_cons_of_mem _ List.mem_cons_self
        · exact List.mem_cons_self
      · exact List.mem_cons_of_mem _ (List.mem_cons_of_mem _ h1)
    · have h3 := h2 _ List.mem_cons_self
      have h4 : x ≤ (if n > x then n else x) ∧ n ≤ (if n > x then n else x) := by split <;> omega
      generalize (if n > x then n else x) = m at h2 h3 h4 ⊢
      rcases List.mem_cons.mp hy with rfl | hy
      · omega
      · rcases List.mem_cons.mp hy with rfl | hy
        · omega
        · exact h2 y (List.mem_cons_of_mem _ hy)
theorem foldl_min_mem : ∀ (ns : List Int) (x : Int), minI x ns ∈ x :: ns ∧ ∀ y ∈ x :: ns, minI x ns ≤ y
  | [], x => ⟨List.mem_cons_self, fun y hy => by rw [List.mem_singleton.mp hy]; exact Int.le_refl _⟩
  | n :: ns, x => by
    show minI (if n < x then n else x) ns ∈ x :: n :: ns ∧ ∀ y ∈ x :: n :: ns, minI (if n < x then n else x) ns ≤ y
    obtain ⟨h1, h2⟩ := foldl_min_mem ns (if n < x then n else x)
    refine ⟨?_, fun y hy => ?_⟩
    · rcases List.mem_cons.mp h1 with e | h1
      · rw [e]; split
        · exact List.mem_cons_of_mem _ List.mem_cons_self
        · exact List.mem_cons_self
      · exact List.mem_cons_of_mem _ (List.mem_cons_of_mem _ h1)
    · have h3 := h2 _ List.mem_cons_self
      have h4 : (if n < x then n else x) ≤ x ∧ (if n < x then n else x) ≤ n := by split <;> omega
      generalize (if n < x then n else x) = m at h2 h3 h4 ⊢
      rcases List.mem_cons.mp hy with rfl | hy
      · omega
      · rcases List.mem_cons.mp hy with rfl | hy
        · omega
        · exact h2 y (List.mem_cons_of_mem _ hy)
theorem sortDic_f {ks : List D} {d : D} (e : sortDic false ks = .ok d) : ∃ ns, asInts ks = some ns ∧ d = .lst ((sortI ns).map .int) := by
  have e' : (match asInts ks with
    | some ns => R.ok (D.lst ((sortI ns).map .int))
    | none => R.bad) = .ok d := e
  cases h : asInts ks with
  | none => rw [h] at e'; cases e'
  | some ns => rw [h] at e'; cases e'; exact ⟨ns, rfl, rfl⟩
theorem sortDic_t {ks : List D} {d : D} (e : sortDic true ks = .ok d) : ∃ ts, asTups ks = some ts ∧ ts.all (fun t => !t.isEmpty) = true ∧ d = .lst ((sortT ts).map fun t => .tup (t.map .int)) := by
  have e' : (match asTups ks with
    | some ts => if ts.all (fun (t : List Int) => !t.isEmpty) then R.ok (D.lst ((sortT ts).map fun (t : List Int) => D.tup (t.map D.int))) else R.bad
    | none => R.bad) = .ok d := e
  cases h : asTups ks with
  | none => rw [h] at e'; cases e'
  | some ts =>
    rw [h] at e'
    by_cases q : ts.all (fun t => !t.isEmpty) = true
    · simp only [q, if_true] at e'; cases e'; exact ⟨ts, rfl, q, rfl⟩
    · simp only [q] at e'; cases e'
theorem keyD_reps : ∀ kvs : List (Key × V), Reps G P (kvs.map fun p => keyD p.1) (kvs.map fun kv => kV kv.1)
  | [] => Reps.nil
  | (k, v) :: kvs => by
    refine Reps.cons ?_ (keyD_reps kvs)
    cases k with
    | inl i => simp only [keyD, Rep]; rfl
    | inr i => simp only [keyD, Rep]; rfl
theorem keyD_ints : ∀ (kvs : List (Key × V)) (ns : List Int), (kvs.map fun p => keyD p.1) = ns.map D.int → kvs.map (·.1) = ns.map Sum.inl
  | [], [], _ => rfl
  | [], _ :: _, h => by simp at h
  | _ :: _, [], h => by simp at h
  | (k, v) :: kvs, n :: ns, h => by
    rw [List.map_cons, List.map_cons, List.cons.injEq] at h ⊢
    refine ⟨?_, keyD_ints kvs ns h.2⟩
    cases k with
    | inl i => have h1 : D.int i = D.int n := h.1; cases h1; rfl
    | inr i => have h1 : D.str i = D.int n := h.1; cases h1
theorem keyD_int1 : ∀ (ks : List Key) (t : List Int), ks.map keyD = t.map D.int → ks = t.map Sum.inl
  | [], [], _ => rfl
  | [], _ :: _, h => by simp at h
  | _ :: _, [], h => by simp at h
  | k :: ks, n :: t, h => by
    rw [List.map_cons, List.map_cons, List.cons.injEq] at h
    rw [List.map_cons, ← keyD_int1 ks t h.2]
    cases k with
    | inl i => have h1 : D.int i = D.int n := h.1; cases h1; rfl
    | inr i => have h1 : D.str i = D.int n := h.1; cases h1
theorem keyD_tups : ∀ (kvs : List (List Key × V)) (ts : List (List Int)), (kvs.map fun p => D.tup (p.1.map keyD)) = (ts.map fun t => D.tup (t.map D.int)) → kvs.map (·.1) = ts.map (fun t => t.map Sum.inl)
  | [], [], _ => rfl
  | [], _ :: _, h => by simp at h
  | _ :: _, [], h => by simp at h
  | (k, v) :: kvs, t :: ts, h => by
    rw [List.map_cons, List.map_cons, List.cons.injEq] at h ⊢
    exact ⟨keyD_int1 k t (D.tup.inj h.1), keyD_tups kvs ts h.2⟩
theorem b1_ok {f : B1} {x d : D} {v : V} {Q : VK} (s : Same P H) (hx : Val G P H x v) (e : b1D f x = .ok d)
    (q : ∀ w P' H', Gr P H P' H' → ResB f.fresh G H P' H' d w → Q w H') : rB1 G f [v] H Q := by
  have qs : ∀ {f' : B1} {d' : D} {w : V}, f = f' → f'.fresh = false → d = d' → Rep G P d' w → Q w H := fun hf h1 h2 h3 => by
    subst hf h2
    exact q _ P H (Gr.refl s) (by unfold ResB; rw [h1]; exact h3)
  have ri : ∀ i : Int, Rep G P (.int i) (.int i) := fun i => by simp only [Rep]
  have rb : ∀ i : Bool, Rep G P (.bl i) (.bl i) := fun i => by simp only [Rep]
  unfold b1D at e
  split at e
  · cases e
    obtain ⟨a, vs, rfl, h1, h2⟩ := hx.lst s
    refine .inl ⟨_, vs.length, rfl, .inl ⟨vs, .of h1, rfl⟩, ?_⟩
    rw [h2.length]
    exact qs rfl rfl rfl (ri _)
  · cases e
    obtain ⟨a, vs, rfl, h1, h2⟩ := hx.scr s
    refine .inl ⟨_, vs.length, rfl, .inl ⟨vs, h1, rfl⟩, ?_⟩
    rw [h2.length]
    exact qs rfl rfl rfl (ri _)
  · cases e
    obtain ⟨a, vs, rfl, _, h1, h2⟩ := hx.tup s
    refine .inl ⟨_, vs.length, rfl, .inr ⟨vs, h1, rfl⟩, ?_⟩
    rw [h2.length]
    exact qs rfl rfl rfl (ri _)
  · split at e
    · rename_i z hm
      cases e
      rw [hx.str]
      exact .inl ⟨_, _, rfl, ⟨hm, rfl⟩, qs rfl rfl rfl (ri _)⟩
    · cases e
  · cases e
    obtain ⟨a, rfl, ⟨_, kvs, h1, h2, _⟩ | ⟨_, kvs, h1, h2, _⟩⟩ := hx.dic s
    · subst h2
      rw [List.length_map] at qs
      exact .inr (.inl ⟨a, kvs, rfl, h1, qs rfl rfl rfl (ri _)⟩)
    · subst h2
      rw [List.length_map] at qs
      exact .inr (.inr ⟨a, kvs, rfl, h1, qs rfl rfl rfl (ri _)⟩)
  · cases e; rw [hx.int]; exact ⟨_, rfl, qs rfl rfl rfl (ri _)⟩
  · cases e; rw [hx.int]; exact .inl ⟨_, rfl, qs rfl rfl rfl (ri _)⟩
  · cases e; rw [hx.bl]; exact .inr ⟨_, rfl, qs rfl rfl rfl (ri _)⟩
  · cases e
    obtain ⟨a, vs, rfl, h1, h2⟩ := hx.lst s
    exact .inl ⟨a, vs, rfl, .inl (.of h1), fun p hp => q _ P _ (Gr.made s hp) (FreshAt.laid s h2 hp)⟩
  · cases e
    obtain ⟨a, vs, rfl, _, h1, h2⟩ := hx.tup s
    exact .inl ⟨a, vs, rfl, .inr h1, fun p hp => q _ P _ (Gr.made s hp) (FreshAt.laid s h2 hp)⟩
  · cases e
    obtain ⟨a, rfl, ⟨_, kvs, h1, h2, _⟩ | ⟨_, kvs, h1, h2, _⟩⟩ := hx.dic s
    · subst h2
      refine .inr (.inl ⟨a, kvs, rfl, h1, fun p hp => q _ P _ (Gr.made s hp) (FreshAt.laid s (keyD_reps kvs) hp)⟩)
    · subst h2
      refine .inr (.inr ⟨a, kvs, rfl, h1, fun p bs hp hb => ?_⟩)
      obtain ⟨P2, g2, r2⟩ := keys_laid s hb
      exact q _ P2 _ (g2.trans (Gr.made g2.ph hp)) (FreshAt.laid g2.ph r2 hp)
  · cases e
    obtain ⟨a, vs, rfl, h1, h2⟩ := hx.lst s
    exact ⟨a, vs, rfl, .inl ⟨.of h1, fun p hp => q _ _ _ (Gr.laid s hp) (Rep.tup_laid h2 (s.free hp))⟩⟩
  · cases e
    obtain ⟨a, vs, rfl, h0, h1, h2⟩ := hx.tupX s
    exact ⟨a, vs, rfl, .inr ⟨h1, qs rfl rfl rfl (by simp only [Rep]; exact ⟨a, vs, rfl, h0, h2⟩)⟩⟩
  · rename_i l
    obtain ⟨a, vs, rfl, h1, h2⟩ := hx.lst s
    cases hd : sortD l with
    | ok r => rw [hd] at e; cases e; exact sort_ok s (.inl (.of h1)) h2 hd q
    | err _ _ => rw [hd] at e; cases e
    | bad => rw [hd] at e; cases e
  · rename_i l
    obtain ⟨a, vs, rfl, _, h1, h2⟩ := hx.tup s
    cases hd : sortD l with
    | ok r => rw [hd] at e; cases e; exact sort_ok s (.inr h1) h2 hd q
    | err _ _ => rw [hd] at e; cases e
    | bad => rw [hd] at e; cases e
  · rename_i t ks vs
    obtain ⟨a, rfl, ⟨ht, kvs, h1, h2, _⟩ | ⟨ht, kvs, h1, h2, _⟩⟩ := hx.dic s
    · subst ht
      obtain ⟨ns, hn, rfl⟩ := sortDic_f e
      have hk : kvs.map (·.1) = ns.map Sum.inl := keyD_ints kvs ns (h2.symm.trans (asInts_map hn))
      exact .inr (.inr (.inl ⟨a, kvs, ns, rfl, h1, hk, fun p hp => q _ P _ (Gr.made s hp) (FreshAt.laid s (ints_reps G P _) hp)⟩))
    · subst ht
      obtain ⟨ts, hn, hne, rfl⟩ := sortDic_t e
      have hk : kvs.map (·.1) = ts.map (fun t => t.map Sum.inl) := keyD_tups kvs ts (h2.symm.trans (asTups_map hn))
      refine .inr (.inr (.inr ⟨a, kvs, ts, rfl, h1, hk, fun t m h => ?_, fun bs zs p hb hz he hp => ?_⟩))
      · have := List.all_eq_true.mp hne t m
        rw [h] at this
        cases this
      · obtain ⟨P2, g2, r2⟩ := keys_laid s hb
        have er : (kvs.map fun p => D.tup (p.1.map keyD)) = ts.map fun t => D.tup (t.map D.int) := h2.symm.trans (asTups_map hn)
        rw [er] at r2
        have k1 := reps_zip zs fun p hp => zip_reps r2 p (hz.mem_iff.mp hp)
        have k2 : (zs.map fun p => D.tup (p.2.map D.int)) = (sortT ts).map fun t => D.tup (t.map D.int) := by
          rw [← he, List.map_map]; rfl
        rw [k2] at k1
        exact q _ P2 _ (g2.trans (Gr.made g2.ph hp)) (FreshAt.laid g2.ph k1 hp)
  · rename_i l
    obtain ⟨a, vs, rfl, h1, h2⟩ := hx.lst s
    cases hd : asInts l with
    | none => rw [hd] at e; cases e
    | some ns =>
      rw [hd] at e; cases e
      obtain rfl := asInts_map hd
      obtain rfl := reps_ints h2
      exact ⟨a, ns, rfl, .of h1, qs rfl rfl rfl (ri _)⟩
  · rename_i l
    obtain ⟨a, vs, rfl, h1, h2⟩ := hx.lst s
    cases hd : asBools l with
    | none => rw [hd] at e; cases e
    | some ns =>
      rw [hd] at e; cases e
      obtain rfl := asBools_map hd
      obtain rfl := reps_bools h2
      exact ⟨a, ns, rfl, .of h1, qs rfl rfl rfl (rb _)⟩
  · rename_i l
    obtain ⟨a, vs, rfl, h1, h2⟩ := hx.lst s
    cases hd : asBools l with
    | none => rw [hd] at e; cases e
    | some ns =>
      rw [hd] at e; cases e
      obtain rfl := asBools_map hd
      obtain rfl := reps_bools h2
      exact ⟨a, ns, rfl, .of h1, qs rfl rfl rfl (rb _)⟩
  · rename_i l
    obtain ⟨a, vs, rfl, h1, h2⟩ := hx.lst s
    split at e
    · rename_i n ns hd
      cases e
      obtain rfl := asInts_map hd
      obtain rfl := reps_ints h2
      refine .inl ⟨a, n :: ns, rfl, .of h1, by simp, fun m hm hle => ?_⟩
      obtain ⟨k1, k2⟩ := foldl_max_mem ns n
      have : m = maxI n ns := by
        have a1 := hle _ k1
        have a2 := k2 _ hm
        omega
      rw [this]
      exact qs rfl rfl rfl (ri _)
    · cases e
  · rename_i l
    obtain ⟨a, vs, rfl, h1, h2⟩ := hx.lst s
    split at e
    · rename_i n ns hd
      cases e
      obtain rfl := asInts_map hd
      obtain rfl := reps_ints h2
      refine .inl ⟨a, n :: ns, rfl, .of h1, by simp, fun m hm hle => ?_⟩
      obtain ⟨k1, k2⟩ := foldl_min_mem ns n
      have : m = minI n ns := by
        have a1 := hle _ k1
        have a2 := k2 _ hm
        omega
      rw [this]
      exact qs rfl rfl rfl (ri _)
    · cases e
  · rename_i l
    obtain ⟨a, vs, rfl, _, h1, h2⟩ := hx.tup s
    split at e
    · rename_i n ns hd
      cases e
      obtain rfl := asInts_map hd
      obtain rfl := reps_ints h2
      refine .inr ⟨a, n :: ns, rfl, h1, by simp, fun m hm hle => ?_⟩
      obtain ⟨k1, k2⟩ := foldl_max_mem ns n
      have : m = maxI n ns := by
        have a1 := hle _ k1
        have a2 := k2 _ hm
        omega
      rw [this]
      exact qs rfl rfl rfl (ri _)
    · cases e
  · rename_i l
    obtain ⟨a, vs, rfl, _, h1, h2⟩ := hx.tup s
    split at e
    · rename_i n ns hd
      cases e
      obtain rfl := asInts_map hd
      obtain rfl := reps_ints h2
      refine .inr ⟨a, n :: ns, rfl, h1, by simp, fun m hm hle => ?_⟩
      obtain ⟨k1, k2⟩ := foldl_min_mem ns n
      have : m = minI n ns := by
        have a1 := hle _ k1
        have a2 := k2 _ hm
        omega
      rw [this]
      exact qs rfl rfl rfl (ri _)
    · cases e
  · cases e; rw [hx.bl]; exact ⟨_, rfl, qs rfl rfl rfl (by simp only [Rep])⟩
  · cases e
def B2.nm : B2 → Str
  | .max => "max" | .min => "min"
def B2.id : B2 → String
  | .max => "max" | .min => "min"
theorem B2.boot (f : B2) : bootBuiltins f.nm = some (.builtin f.id) := by
  cases f <;> decide +kernel
def rB2 : B2 → List V → Hp → VK → Prop
  | .max => fun xs H Q => ∃ i j, xs = [.int i, .int j] ∧ Q (.int (if j > i then j else i)) H
  | .min => fun xs H Q => ∃ i j, xs = [.int i, .int j] ∧ Q (.int (if j < i then j else i)) H
theorem b2_of {X : Cx} (hc : X.calm = true) : ∀ f : B2, CallR X (.builtin f.id) (rB2 f)
  | .max => call_max2 hc
  | .min => call_min2 hc
theorem b2_ok {f : B2} {x y d : D} {v u : V} {Q : VK} (s : Same P H) (hx : Val G P H x v) (hy : Val G P H y u) (e : b2D f x y = .ok d)
    (q : ∀ w, Rep G P d w → Q w H) : rB2 f [v, u] H Q := by
  unfold b2D at e
  split at e
  · cases e; rw [hx.int, hy.int]; exact ⟨_, _, rfl, q _ (by simp only [Rep])⟩
  · cases e; rw [hx.int, hy.int]; exact ⟨_, _, rfl, q _ (by simp only [Rep])⟩
  · cases e
theorem isEmpty_len {α β : Type} {a : List α} {b : List β} (h : b.length = a.length) : (!a.isEmpty) = !b.isEmpty := by
  cases a <;> cases b <;> first | rfl | (simp at h)
theorem tru_ok {x : D} {b : Bool} {v : V} (s : Same P H) (hx : Val G P H x v) (e : tru x = .ok b) : TruV G.K v H b := by
  unfold tru at e
  split at e
  · cases e; rw [hx.non]; rfl
  · cases e; rw [hx.bl]; rfl
  · cases e; rw [hx.int]; rfl
  · split at e
    · rename_i hm
      cases e; rw [hx.str]; exact ⟨hm, rfl⟩
    · cases e
  · cases e
    obtain ⟨a, vs, rfl, h1, h2⟩ := hx.lst s
    exact .inl ⟨vs, .of h1, isEmpty_len h2.length⟩
  · cases e
    obtain ⟨a, vs, rfl, _, h1, h2⟩ := hx.tup s
    exact .inr (.inl ⟨vs, h1, isEmpty_len h2.length⟩)
  · cases e
end
end M
set_option Elab.async false
set_option linter.all false
set_option maxRecDepth 100000
set_option maxHeartbeats 2000000
/-! M, part E: the readings of the small language; expressions, piece by piece. -/
namespace M
open PySem L2 PySem.Spec PyProof.Rows

/-! ### results -/
def isBr : IE → Bool
  | .bor _ => true
  | _ => false
/-- what is not put among what is for good -/
def isB : IE → Bool
  | .bor _ => true
  | .dnew _ => true
  | .ddis _ _ => true
  | _ => false
def frE : IE → D → Bool
  | .lst _, .lst _ => true
  | .lc _ _ _ _ _, .lst _ => true
  | .b1 f _, .lst _ => f.fresh
  | .slc _ _ _, .lst _ => true
  | .bin _ _ _, .lst _ => true
  | .rev _, .lst _ => true
  | .dnew _, _ => true
  | .ddis _ _, _ => true
  | .sset _, .lst _ => true
  | .lrng _, .lst _ => true
  | .lc2 _ _ _ _ _ _ _ _ _, .lst _ => true
  | _, _ => false
theorem isBr_of {e : IE} (h : isB e = false) : isBr e = false := by cases e <;> first | rfl | cases h
theorem frE_lst {e : IE} {d : D} (h : isB e = false) (hf : frE e d = true) : nd d = true := by
  cases d <;> first | rfl | (cases e <;> first | exact (Bool.false_ne_true hf).elim | exact (Bool.false_ne_true h.symm).elim)
def ResE (G : Glob) (e : IE) (H P' H' : Hp) (d : D) (v : V) : Prop :=
  if isBr e = true then Val G P' H' d v else if frE e d = true then FreshAt G H P' H' d v else Rep G P' d v
section
variable {G : Glob} {e : IE} {P H P' H' : Hp} {d : D} {v : V}
theorem ResE.val (h : ResE G e H P' H' d v) : Val G P' H' d v := by
  unfold ResE at h
  split at h
  · exact h
  · split at h
    · obtain ⟨p, e1, _, o⟩ := h; exact .inr ⟨p, e1, o⟩
    · exact .inl h
/-- the value is put among what is for good -/
theorem FreshAt.store (hd : nd d = true) (g : Gr P H P' H') (h : FreshAt G H P' H' d v) : ∃ P2, Gr P H P2 H' ∧ Same P' P2 ∧ Rep G P2 d v := by
  obtain ⟨p, rfl, hp, o⟩ := h
  obtain ⟨x, h1, h2, h3, h4⟩ := o.freeze g.ph hd
  refine ⟨upd P' p x, ⟨g.pp.trans h2, g.hh, h3, fun a y q => ?_⟩, h2, h4⟩
  by_cases ha : a = p
  · exact .inr (.inl (by rw [ha]; exact hp))
  · rw [upd_ne ha] at q; exact g.nw a y q
theorem ResE.store (hb : isB e = false) (g : Gr P H P' H') (h : ResE G e H P' H' d v) : ∃ P2, Gr P H P2 H' ∧ Same P' P2 ∧ Rep G P2 d v := by
  unfold ResE at h
  rw [if_neg (by rw [isBr_of hb]; exact Bool.false_ne_true)] at h
  split at h
  · rename_i hf
    exact h.store (frE_lst hb hf) g
  · exact ⟨P', g, Same.refl _, h⟩
theorem ResE.plain (hb : isB e = false) (hf : frE e d = false) (h : ResE G e H P' H' d v) : Rep G P' d v := by
  unfold ResE at h
  rw [if_neg (by rw [isBr_of hb]; exact Bool.false_ne_true), if_neg (by rw [hf]; exact Bool.false_ne_true)] at h
  exact h
theorem ResE.of_plain (hb : isBr e = false) (hf : frE e d = false) (h : Rep G P' d v) : ResE G e H P' H' d v := by
  unfold ResE
  rw [if_neg (by rw [hb]; exact Bool.false_ne_true), if_neg (by rw [hf]; exact Bool.false_ne_true)]
  exact h
theorem ResE.of_fresh (hb : isBr e = false) (hf : frE e d = true) (h : FreshAt G H P' H' d v) : ResE G e H P' H' d v := by
  unfold ResE
  rw [if_neg (by rw [hb]; exact Bool.false_ne_true), if_pos hf]
  exact h
theorem FreshAt.back {H1 : Hp} (s : Same H H1) (h : FreshAt G H1 P' H' d v) : FreshAt G H P' H' d v := by
  obtain ⟨p, e1, h1, o⟩ := h
  exact ⟨p, e1, Same.free s h1, o⟩
end
def ExcAt (G : Glob) (P : Hp) (c : Str) (p : Option (Str × D)) (cls : Value) (dx : Option Addr) : Prop :=
  G.mg c = some cls ∧ ∀ f d, p = some (f, d) → ∃ dd v, dx = some dd ∧ P dd = some (.xd [(f, v)]) ∧ Rep G P d v

/-! ### the readings -/
def FinG (G : Glob) (W : WX) (σ : L2.St) {α : Type} (P H : Hp) (r : R α) (K : α → Hp → Hp → Prop) : Prop := match r with
  | .ok a => ∀ P' H', Gr P H P' H' → K a P' H'
  | .err c p => ∀ P' H' cls dx, Gr P H P' H' → ExcAt G P' c p cls dx → W cls dx σ H'
  | .bad => False
def tE (G : Glob) (F : Fx) (W : WX) (e : IE) : TE := fun σ H Q => ∃ P st, StOk G F P H σ st ∧ FinG G W σ P H (evE e st) fun d P' H' => ∀ v, ResE G e H P' H' d v → Q v H'
def tT (G : Glob) (F : Fx) (W : WX) (e : IQ) : TT := fun σ H Q => ∃ P st, StOk G F P H σ st ∧ FinG G W σ P H (evT e st) fun b _ H' => Q b H'
def tAnd' (G : Glob) (F : Fx) (W : WX) (l : IQs) : TT := fun σ H Q => ∃ P st, StOk G F P H σ st ∧ FinG G W σ P H (evAndT l st) fun b _ H' => Q b H'
def tOr' (G : Glob) (F : Fx) (W : WX) (l : IQs) : TT := fun σ H Q => ∃ P st, StOk G F P H σ st ∧ FinG G W σ P H (evOrT l st) fun b _ H' => Q b H'
def vAnd (G : Glob) (F : Fx) (W : WX) (l : IEs) : TE := fun σ H Q => ∃ P st, StOk G F P H σ st ∧ FinG G W σ P H (evAnd l st) fun d P' H' => ∀ v, Rep G P' d v → Q v H'
def vOr (G : Glob) (F : Fx) (W : WX) (l : IEs) : TE := fun σ H Q => ∃ P st, StOk G F P H σ st ∧ FinG G W σ P H (evOr l st) fun d P' H' => ∀ v, Rep G P' d v → Q v H'
def tC' (G : Glob) (F : Fx) (W : WX) (l : IQs) : TT := fun σ H Q => ∃ P st, StOk G F P H σ st ∧ FinG G W σ P H (evC l st) fun b _ H' => Q b H'
/-- arguments: all put among what is for good -/
def tAs (G : Glob) (F : Fx) (W : WX) (l : IEs) : TA := fun σ H Q => ∃ P st, StOk G F P H σ st ∧ FinG G W σ P H (evEs l st) fun ds P' H' => ∀ vs, Reps G P' ds vs → Q vs H'
def tO' (G : Glob) (F : Fx) (W : WX) (o : IO) : TO := fun σ H Q => ∃ P st, StOk G F P H σ st ∧ FinG G W σ P H (evO o st) fun i _ H' => Q i H'
/-- an iterator serves these items -/
def Serves (G : Glob) (J : It) (P : Hp) (items : List D) : Prop := ∀ (i : Nat) (H' : Hp), Same P H' → (items.length ≤ i → J.stop i H') ∧
  ∀ d, items[i]? = some d → J.go i H' ∧ ∀ x H2, J.yld i H' x H2 → ∀ P1, Same P P1 → Same P1 H' → ∃ P2, Gr P1 H' P2 H2 ∧ Rep G P2 d x
def tI (G : Glob) (F : Fx) (W : WX) (it : IT) : TI := fun σ H R => ∃ P st, StOk G F P H σ st ∧ FinG G W σ P H (evI it st) fun items P' H' => ∀ J, Serves G J P' items → R J H'

section
variable {G : Glob} {F : Fx} {W : WX} {σ : L2.St} {P H : Hp} {st : ES}
theorem FinG.move {α : Type} {r : R α} {K : α → Hp → Hp → Prop} {P1 H1 : Hp} (h : FinG G W σ P H r K) (g : Gr P H P1 H1) : FinG G W σ P1 H1 r K := by
  cases r with
  | ok a => exact fun P' H' g' => h P' H' (g.trans g')
  | err c p => exact fun P' H' cls dx g' x => h P' H' cls dx (g.trans g') x
  | bad => exact h
theorem FinG.mono {α : Type} {r : R α} {K K' : α → Hp → Hp → Prop} (h : FinG G W σ P H r K) (k : ∀ a P' H', Gr P H P' H' → K a P' H' → K' a P' H') : FinG G W σ P H r K' := by
  cases r with
  | ok a => exact fun P' H' g' => k a P' H' g' (h P' H' g')
  | err c p => exact h
  | bad => exact h
theorem FinG.bind {α β : Type} {r : R α} {k : α → R β} {K : β → Hp → Hp → Prop} {K' : α → Hp → Hp → Prop} (h : FinG G W σ P H (r.bind k) K)
    (hk : ∀ a P1 H1, r = .ok a → Gr P H P1 H1 → FinG G W σ P1 H1 (k a) K → K' a P1 H1) : FinG G W σ P H r K' := by
  cases r with
  | ok a => exact fun P1 H1 g => hk a P1 H1 rfl g (FinG.move (r := k a) h g)
  | err c p => exact h
  | bad => exact h
theorem FinG.at_ {α : Type} {a : α} {K : α → Hp → Hp → Prop} (s : Same P H) (h : FinG G W σ P H (.ok a) K) : K a P H := h P H (Gr.refl s)
theorem E_bind {β : Type} {a : IE} {k : D → R β} {K : β → Hp → Hp → Prop} {Q : VK} (hs : StOk G F P H σ st) (h : FinG G W σ P H ((evE a st).bind k) K)
    (hk : ∀ x v P1 H1, evE a st = .ok x → Gr P H P1 H1 → ResE G a H P1 H1 x v → FinG G W σ P1 H1 (k x) K → Q v H1) : tE G F W a σ H Q :=
  ⟨P, st, hs, h.bind fun x P1 H1 e g f v r => hk x v P1 H1 e g r f⟩
theorem T_bind {β : Type} {a : IQ} {k : Bool → R β} {K : β → Hp → Hp → Prop} {Q : Bool → Hp → Prop} (hs : StOk G F P H σ st) (h : FinG G W σ P H ((evT a st).bind k) K)
    (hk : ∀ x P1 H1, Gr P H P1 H1 → FinG G W σ P1 H1 (k x) K → Q x H1) : tT G F W a σ H Q :=
  ⟨P, st, hs, h.bind fun x P1 H1 _ g f => hk x P1 H1 g f⟩
theorem A_bind {β : Type} {l : IEs} {k : List D → R β} {K : β → Hp → Hp → Prop} {Q : List V → Hp → Prop} (hs : StOk G F P H σ st) (h : FinG G W σ P H ((evEs l st).bind k) K)
    (hk : ∀ ds vs P1 H1, evEs l st = .ok ds → Gr P H P1 H1 → Reps G P1 ds vs → FinG G W σ P1 H1 (k ds) K → Q vs H1) : tAs G F W l σ H Q :=
  ⟨P, st, hs, h.bind fun x P1 H1 e g f vs r => hk x vs P1 H1 e g r f⟩
theorem O_bind {β : Type} {o : IO} {k : Option Int → R β} {K : β → Hp → Hp → Prop} {Q : Option Int → Hp → Prop} (hs : StOk G F P H σ st) (h : FinG G W σ P H ((evO o st).bind k) K)
    (hk : ∀ x P1 H1, Gr P H P1 H1 → FinG G W σ P1 H1 (k x) K → Q x H1) : tO' G F W o σ H Q :=
  ⟨P, st, hs, h.bind fun x P1 H1 _ g f => hk x P1 H1 g f⟩
theorem I_bind {β : Type} {o : IT} {k : List D → R β} {K : β → Hp → Hp → Prop} {Q : It → Hp → Prop} (hs : StOk G F P H σ st) (h : FinG G W σ P H ((evI o st).bind k) K)
    (hk : ∀ x J P1 H1, Gr P H P1 H1 → Serves G J P1 x → FinG G W σ P1 H1 (k x) K → Q J H1) : tI G F W o σ H Q :=
  ⟨P, st, hs, h.bind fun x P1 H1 _ g f J sv => hk x J P1 H1 g sv f⟩
end

/-! ### the context -/
def biNames : List Str := ["len", "abs", "int", "list", "tuple", "sorted", "sum", "all", "any", "max", "min", "range", "enumerate", "zip", "set", "repr", "isinstance", "str", "super", "bool"]
structure Cxt (F : Fx) (W : WX) (X : Cx) (N : List Str) (sc : Scope) (tn : List (Str × NameKind)) (cm : Bool) (lv : Nat) : Prop where
  hN : X.N = N
  nd : N.Nodup
  hs : X.env.scope = sc
  calm : cm = true → X.calm = true
  room : cm = true → Room lv X.A
  un : X.A.units + 65 < cLine
  tk : Takes X W
  po : PassesOwn (model X.prog X.w) X.A X.env X.xe
  stl : ∀ x, tn.lookup x = some .local → sc.names.lookup x = some .local
  stc : ∀ x, tn.lookup x = some .cell → sc.names.lookup x = some .cell ∧ X.fn x = true
  bi : ∀ n ∈ biNames, X.mg n = none
  xs : ∀ a cls dx, F.xa = some (a, cls, dx) → ∃ (X0 : Cx) (oe : Obj) (pn : List (Addr × Obj)), X = X0.suite a ((a, oe) :: pn) ∧ Zc cls dx oe ∧ ∃ vs, oe.data = .fields vs

/-! ### syntactic side conditions -/
def visB (sc : Scope) (x : Str) : Bool := match sc.names.lookup x with
  | some .local => true
  | some .cell => true
  | some .free => true
  | _ => false
theorem vis_of {sc : Scope} {x : Str} (h : visB sc x = true) : Vis sc x := by
  unfold visB at h
  unfold Vis
  split at h
  · exact .inl ‹_›
  · exact .inr (.inl ‹_›)
  · exact .inr (.inr ‹_›)
  · cases h
def glB (sc : Scope) (x : Str) : Bool := match sc.names.lookup x with
  | some .globalImplicit => true
  | _ => false
theorem gl_of {X : Cx} {x : Str} (h : glB X.env.scope x = true) : Gl X x := by
  unfold glB at h
  unfold Gl Env.kindOf
  split at h
  · assumption
  · cases h
def notSet : Expr → Bool
  | .Set _ _ _ => false
  | _ => true
theorem nomarkM {op : CmpOp} {b : Expr} (h : notSet b = true) : behindInMarks op b = false := by
  cases b <;> first | rfl | cases h
theorem nofold {b : Expr} {env : Env} (h : notSet b = true) : ∀ x, foldedSetIterable b env x = pure x := by
  cases b <;> first | (intro _; rfl) | cases h
def notStar : Expr → Bool
  | .Starred _ _ => false
  | _ => true
theorem star_ok {e : Expr} {es : List Expr} {env : Env} (h : notStar e = true) : starEach (e :: es) env = (false, eval e env) :: starEach es env := by
  cases e <;> first | rfl | cases h
theorem plain_ok {pos : Pos} {env : Env} : ∀ {es : List Expr}, (∀ e ∈ es, notStar e = true) → (backTo pos (starEach es env)).any (·.1) = false
  | [], _ => rfl
  | e :: es, h => by
    rw [star_ok (h e List.mem_cons_self)]
    show (false || (backTo pos (starEach es env)).any (·.1)) = false
    rw [plain_ok fun x hx => h x (List.mem_cons_of_mem _ hx)]
    rfl
def notSlice : Expr → Bool
  | .Slice _ _ _ _ => false
  | _ => true
theorem plainIx {b : Expr} (h : notSlice b = true) : PlainIx b := by
  cases b <;> first | (intro _ _; rfl) | cases h
/-- a test that is the truth of a value -/
def plainTest : Expr → Bool
  | .UnaryOp _ _ _ => false
  | .BoolOp _ _ _ => false
  | .IfExp _ _ _ _ => false
  | .Compare _ _ _ _ => false
  | _ => true
theorem plainTest_ok {e : Expr} {env : Env} (h : plainTest e = true) : ∀ whole, isTrue e env whole = (do let v ← whole; standAt e.pos; holding [v] (truthy v)) := by
  cases e <;> first | (intro _; rfl) | cases h
/-- not a call without arguments (super() is looked at apart) -/
def notCall0 : Expr → Bool
  | .Call _ [] [] _ => false
  | _ => true
theorem base_ok {e : Expr} {f : Str} {env : Env} (h : notCall0 e = true) : attributeBase e f env (eval e env) = eval e env := by
  unfold attributeBase
  split
  · cases h
  · rfl

/-! ### expressions, piece by piece -/
section
variable {X : Cx} {F : Fx} {W : WX} {N : List Str} {sc : Scope} {tn : List (Str × NameKind)} {cm : Bool} {lv : Nat}
theorem _root_.L2.PE.weak {e : Expr} {t t' : TE} (h : PE X e t) (w : ∀ σ H Q, t' σ H Q → t σ H Q) : PE X e t' := ⟨fun pins s σ H Q I q => h.run pins s σ H Q I (w σ H Q q)⟩
theorem _root_.L2.PT.weak {e : Expr} {t t' : TT} (h : PT X e t) (w : ∀ σ H Q, t' σ H Q → t σ H Q) : PT X e t' := ⟨fun pins s σ H Q I q => h.run pins s σ H Q I (w σ H Q q)⟩
theorem _root_.L2.PW.weak {e : Expr} {t t' : TT} (h : PW X e t) (w : ∀ σ H Q, t' σ H Q → t σ H Q) : PW X e t' := ⟨fun wh pins s σ H Q I q => h.run wh pins s σ H Q I (w σ H Q q)⟩
theorem _root_.L2.PA.weak {e : List Expr} {t t' : TA} (h : PA X e t) (w : ∀ σ H Q, t' σ H Q → t σ H Q) : PA X e t' := ⟨fun pos pins s σ H Q I q => h.run pos pins s σ H Q I (w σ H Q q)⟩
theorem _root_.L2.PO.weak {e : Option Expr} {t t' : TO} (h : PO X e t) (w : ∀ σ H Q, t' σ H Q → t σ H Q) : PO X e t' := ⟨fun pins s σ H Q I q => h.run pins s σ H Q I (w σ H Q q)⟩
theorem _root_.L2.PI.weak {tg e : Expr} {t t' : TI} (h : PI X tg e t) (w : ∀ σ H Q, t' σ H Q → t σ H Q) : PI X tg e t' := ⟨fun pins s σ H Q I q => h.run pins s σ H Q I (w σ H Q q)⟩
theorem _root_.L2.PI.or {tg e : Expr} {t t' : TI} (h : PI X tg e t) (h' : PI X tg e t') : PI X tg e (fun σ H R => t σ H R ∨ t' σ H R) := ⟨fun pins s σ H R I q => by
  rcases q with q | q
  · exact h.run pins s σ H R I q
  · exact h'.run pins s σ H R I q⟩

theorem getb_val {G : Glob} {P H : Hp} {σ : L2.St} {st : ES} {d : D} {i : Nat} (h : StOk G F P H σ st) (e : getb st i = .ok d) : ∃ v, σ[i]? = some (some v) ∧ Val G P H d v := by
  unfold getb at e
  split at e
  · rename_i x hx
    cases e
    obtain ⟨o, h1, v, rfl, r⟩ := h.at_ hx
    exact ⟨v, h1, .inl r⟩
  · rename_i x hx
    cases e
    obtain ⟨o, h1, a, rfl, _, r⟩ := h.at_ hx
    exact ⟨_, h1, .inr ⟨a, rfl, r⟩⟩
  · rename_i x hx
    cases e
    obtain ⟨o, h1, a, rfl, _, _, r⟩ := h.at_ hx
    exact ⟨_, h1, .inr ⟨a, rfl, r⟩⟩
  · cases e
theorem getv_cases {st : ES} {i : Nat} : (∃ d, getv st i = .ok d) ∨ getv st i = .bad := by
  unfold getv; split
  · exact .inl ⟨_, rfl⟩
  · exact .inr rfl
theorem getb_cases {st : ES} {i : Nat} : (∃ d, getb st i = .ok d) ∨ getb st i = .bad := by
  unfold getb; split <;> first | exact .inl ⟨_, rfl⟩ | exact .inr rfl

theorem sE_var (c : Cxt F W X N sc tn cm lv) {i : Nat} {x : Str} {p : Pos} (hi : N[i]? = some x) (hv : visB sc x = true) (hd : (x == ("__debug__" : Str)) = false) (hc : (x == ("__classdict__" : Str)) = false) :
    PE X (.Name x p) (tE (gl X) F W (.var i)) := by
  refine (pe_var (i := i) (by rw [c.hN]; exact hi) (by rw [c.hs]; exact vis_of hv) hd hc).weak fun σ H Q h => ?_
  obtain ⟨P, st, hs, h⟩ := h
  simp only [evE] at h
  rcases getv_cases (st := st) (i := i) with ⟨d, e⟩ | e
  · rw [e] at h
    obtain ⟨v, h1, r⟩ := getv_ok hs e
    exact ⟨v, h1, FinG.at_ hs.ex h v (ResE.of_plain rfl (by cases d <;> rfl) r)⟩
  · rw [e] at h; exact h.elim
theorem sE_bor (c : Cxt F W X N sc tn cm lv) {i : Nat} {x : Str} {p : Pos} (hi : N[i]? = some x) (hv : visB sc x = true) (hd : (x == ("__debug__" : Str)) = false) (hc : (x == ("__classdict__" : Str)) = false) :
    PE X (.Name x p) (tE (gl X) F W (.bor i)) := by
  refine (pe_var (i := i) (by rw [c.hN]; exact hi) (by rw [c.hs]; exact vis_of hv) hd hc).weak fun σ H Q h => ?_
  obtain ⟨P, st, hs, h⟩ := h
  simp only [evE] at h
  rcases getb_cases (st := st) (i := i) with ⟨d, e⟩ | e
  · rw [e] at h
    obtain ⟨v, h1, r⟩ := getb_val hs e
    refine ⟨v, h1, FinG.at_ hs.ex h v ?_⟩
    unfold ResE
    exact r
  · rw [e] at h; exact h.elim
theorem sE_const {e : Expr} {a : IE} {d : D} {v : V} (h : PE X e (tC v)) (ha : ∀ st, evE a st = .ok d) (hb : isB a = false) (hf : frE a d = false) (r : ∀ P, Rep (gl X) P d v) : PE X e (tE (gl X) F W a) :=
  h.weak fun σ H Q h => by
    obtain ⟨P, st, hs, h⟩ := h
    rw [ha] at h
    exact FinG.at_ hs.ex h v (ResE.of_plain (isBr_of hb) hf (r P))
theorem sE_bin (c : Cxt F W X N sc tn cm lv) {op : BOp} {a b : IE} {x y : Expr} {p : Pos} (ha : PE X x (tE (gl X) F W a)) (hb : PE X y (tE (gl X) F W b)) : PE X (.BinOp x (opOf op) y p) (tE (gl X) F W (.bin op a b)) :=
  (pe_op (op_of op) ha hb).weak fun σ H Q h => by
    obtain ⟨P, st, hs, h⟩ := h
    simp only [evE] at h
    refine E_bind hs h fun x v P1 H1 _ g1 r1 h1 => E_bind (hs.grow g1) h1 fun y u P2 H2 _ g2 r2 h2 => ?_
    cases e : binD op x y with
    | ok d =>
      rw [e] at h2
      refine rOf_ok (G := gl X) g2.ph (r1.val.grow g2) r2.val e fun w P' H' g q => h2 P' H' g w ?_
      cases d <;> first
        | exact ResE.of_fresh rfl rfl (FreshAt.back (g1.hh.trans g2.hh) q)
        | exact ResE.of_plain rfl rfl q
    | err _ _ =>
      exfalso
      unfold binD at e
      split at e <;> first | cases e | (split at e <;> cases e)
    | bad => rw [e] at h2; exact h2.elim
theorem sE_neg {a : IE} {x : Expr} {p : Pos} (ha : PE X x (tE (gl X) F W a)) : PE X (.UnaryOp .USub x p) (tE (gl X) F W (.neg a)) :=
  (pe_un un_neg ha).weak fun σ H Q h => by
    obtain ⟨P, st, hs, h⟩ := h
    simp only [evE] at h
    refine E_bind hs h fun x v P1 H1 _ g1 r1 h1 => ?_
    cases x with
    | int i =>
      rw [r1.val.int]
      exact ⟨i, rfl, FinG.at_ g1.ph h1 _ (ResE.of_plain rfl rfl (by simp only [Rep]))⟩
    | _ => exact h1.elim
theorem cmp_noerr {op : COp} {x y : D} {c : Str} {p : Option (Str × D)} : cmpD op x y ≠ .err c p := by
  have h1 : ∀ a b : D, eqD a b ≠ .err c p := fun a b h => by unfold eqD at h; split at h <;> cases h
  have h2 : ∀ (a : D) (l : List D), inD a l ≠ .err c p := fun a b h => by unfold inD at h; split at h <;> cases h
  intro e
  unfold cmpD at e
  split at e
  · exact h1 _ _ e
  · cases q : eqD x y with
    | ok _ => rw [q] at e; cases e
    | err c' p' => rw [q] at e; cases e; exact h1 _ _ q
    | bad => rw [q] at e; cases e
  · cases e
  · cases e
  · cases e
  · cases e
  · exact h2 _ _ e
  · rename_i l
    cases q : inD x l with
    | ok _ => rw [q] at e; cases e
    | err c' p' => rw [q] at e; cases e; exact h2 _ _ q
    | bad => rw [q] at e; cases e
  · exact h2 _ _ e
  · rename_i l
    cases q : inD x l with
    | ok _ => rw [q] at e; cases e
    | err c' p' => rw [q] at e; cases e; exact h2 _ _ q
    | bad => rw [q] at e; cases e
  · split at e <;> cases e
  · split at e <;> cases e
  · cases e
  · cases e
theorem rep_bl {G : Glob} {P : Hp} {b : Bool} : Rep G P (.bl b) (.bl b) := by simp only [Rep]
theorem rep_int {G : Glob} {P : Hp} {b : Int} : Rep G P (.int b) (.int b) := by simp only [Rep]
/-- the reading of a comparison, from the evaluation -/
theorem cmp_go {σ : L2.St} {P H : Hp} {st : ES} {op : COp} {a b : IE} {Q : VK} (hs : StOk (gl X) F P H σ st)
    (h : FinG (gl X) W σ P H ((evE a st).bind fun x => (evE b st).bind fun y => (cmpD op x y).bind fun c => .ok c) fun c _ H' => Q (.bl c) H') : tOp (rCof X.K op) (tE (gl X) F W a) (tE (gl X) F W b) σ H Q := by
  refine E_bind hs h fun x v P1 H1 _ g1 r1 h1 => E_bind (hs.grow g1) h1 fun y u P2 H2 _ g2 r2 h2 => ?_
  cases e : cmpD op x y with
  | ok d =>
    rw [e] at h2
    exact rCof_ok (G := gl X) g2.ph (r1.val.grow g2) r2.val e (FinG.at_ g2.ph h2)
  | err _ _ => exact absurd e cmp_noerr
  | bad => rw [e] at h2; exact h2.elim
theorem sE_cmp (c : Cxt F W X N sc tn cm lv) {op : COp} {a b : IE} {x y : Expr} {p : Pos} (ha : PE X x (tE (gl X) F W a)) (hb : PE X y (tE (gl X) F W b)) (hn : notSet y = true) : PE X (.Compare x [copOf op] [y] p) (tE (gl X) F W (.cmp op a b)) :=
  (pe_cmpR (cop_of c.un op) ha hb (nomarkM hn)).weak fun σ H Q h => by
    obtain ⟨P, st, hs, h⟩ := h
    refine cmp_go hs ?_
    simp only [evE] at h
    refine FinG.bind (K' := fun c _ H' => Q (.bl c) H') (k := fun c => R.ok (D.bl c)) (K := fun d P' H' => ∀ v, ResE (gl X) (.cmp op a b) H P' H' d v → Q v H') ?_ fun c P1 H1 _ g f => FinG.at_ g.ph f _ (ResE.of_plain rfl rfl rep_bl)
    have e : (((evE a st).bind fun x => (evE b st).bind fun y => (cmpD op x y).bind fun c => R.ok c).bind fun c => R.ok (D.bl c)) = (evE a st).bind fun x => (evE b st).bind fun y => (cmpD op x y).bind fun c => R.ok (D.bl c) := by
      cases evE a st with
      | ok x => cases evE b st with
        | ok y => show ((cmpD op x y).bind fun c => R.ok c).bind _ = (cmpD op x y).bind _; cases cmpD op x y <;> rfl
        | err _ _ => rfl
        | bad => rfl
      | err _ _ => rfl
      | bad => rfl
    rw [e]
    exact h
theorem sT_cmp (c : Cxt F W X N sc tn cm lv) {op : COp} {a b : IE} {x y : Expr} {p : Pos} (ha : PE X x (tE (gl X) F W a)) (hb : PE X y (tE (gl X) F W b)) (hn : notSet y = true) : PT X (.Compare x [copOf op] [y] p) (tT (gl X) F W (.v (.cmp op a b))) :=
  (pt_cmpR (cop_of c.un op) ha hb (nomarkM hn)).weak fun σ H Q h => by
    obtain ⟨P, st, hs, h⟩ := h
    refine cmp_go (Q := fun x H' => ∃ k, x = .bl k ∧ Q k H') hs ?_
    simp only [evT, evE] at h
    have e : (((evE a st).bind fun x => (evE b st).bind fun y => (cmpD op x y).bind fun c => R.ok (D.bl c)).bind tru) = (evE a st).bind fun x => (evE b st).bind fun y => (cmpD op x y).bind fun c => R.ok c := by
      cases evE a st with
      | ok x => cases evE b st with
        | ok y => show ((cmpD op x y).bind fun c => R.ok (D.bl c)).bind _ = (cmpD op x y).bind _; cases cmpD op x y <;> rfl
        | err _ _ => rfl
        | bad => rfl
      | err _ _ => rfl
      | bad => rfl
    rw [e] at h
    exact h.mono fun c P' H' _ q => ⟨c, rfl, q⟩
end
end M
set_option Elab.async false
set_option linter.all false
set_option maxRecDepth 100000
set_option maxHeartbeats 2000000
/-! M, part F: the other expressions. -/
namespace M
open PySem L2 PySem.Spec PyProof.Rows

section
variable {G : Glob} {F : Fx} {W : WX} {σ : L2.St} {P H : Hp} {st : ES}
theorem FinG.bind0 {α β : Type} {r : R α} {k : α → R β} {K : β → Hp → Hp → Prop} {K' : α → Hp → Hp → Prop} (h : FinG G W σ P H (r.bind k) K)
    (hk : ∀ a P1 H1, r = .ok a → Gr P H P1 H1 → FinG G W σ P H (k a) K → K' a P1 H1) : FinG G W σ P H r K' := by
  cases r with
  | ok a => exact fun P1 H1 g => hk a P1 H1 rfl g h
  | err c p => exact h
  | bad => exact h
/-- .. the value put among what is for good -/
theorem E_bindS {β : Type} {a : IE} {k : D → R β} {K : β → Hp → Hp → Prop} {Q : VK} (hb : isB a = false) (hs : StOk G F P H σ st) (h : FinG G W σ P H ((evE a st).bind k) K)
    (hk : ∀ x v P1 H1, evE a st = .ok x → Gr P H P1 H1 → Rep G P1 x v → FinG G W σ P1 H1 (k x) K → Q v H1) : tE G F W a σ H Q :=
  ⟨P, st, hs, h.bind0 fun x P1 H1 e g f v r => by
    obtain ⟨P2, g2, _, r2⟩ := r.store hb g
    exact hk x v P2 H1 e g2 r2 (f.move g2)⟩
end

/-! ### chains, None -/
section
variable {X : Cx} {F : Fx} {W : WX} {N : List Str} {sc : Scope} {tn : List (Str × NameKind)} {cm : Bool} {lv : Nat}
theorem chain_go {σ : L2.St} {P H : Hp} {st : ES} {o1 o2 : COp} {a b c : IE} {Q : VK} (hs : StOk (gl X) F P H σ st)
    (h : FinG (gl X) W σ P H ((evE a st).bind fun x => (evE b st).bind fun y => (cmpD o1 x y).bind fun k => if k = true then (evE c st).bind fun z => cmpD o2 y z else .ok false) fun c _ H' => Q (.bl c) H') :
    tChain (rCof X.K o1) (rCof X.K o2) (tE (gl X) F W a) (tE (gl X) F W b) (tE (gl X) F W c) σ H Q := by
  refine E_bind hs h fun x v P1 H1 _ g1 r1 h1 => E_bind (hs.grow g1) h1 fun y u P2 H2 _ g2 r2 h2 => ?_
  cases e : cmpD o1 x y with
  | ok d =>
    rw [e] at h2
    refine rCof_ok (G := gl X) g2.ph (r1.val.grow g2) r2.val e ⟨d, rfl, ?_⟩
    cases d with
    | false =>
      rw [if_neg Bool.false_ne_true]
      exact FinG.at_ g2.ph h2
    | true =>
      rw [if_pos rfl]
      have h2' : FinG (gl X) W σ P2 H2 ((evE c st).bind fun z => cmpD o2 y z) fun c _ H' => Q (.bl c) H' := h2
      refine E_bind ((hs.grow g1).grow g2) h2' fun z w P3 H3 _ g3 r3 h3 => ?_
      cases e2 : cmpD o2 y z with
      | ok d2 =>
        rw [e2] at h3
        exact rCof_ok (G := gl X) g3.ph (r2.val.grow g3) r3.val e2 (FinG.at_ g3.ph h3)
      | err _ _ => exact absurd e2 cmp_noerr
      | bad => rw [e2] at h3; exact h3.elim
  | err _ _ => exact absurd e cmp_noerr
  | bad => rw [e] at h2; exact h2.elim
theorem last_ok {o1 o2 : CmpOp} {b c : Expr} (h : notSet c = true) : lastMarks [o1, o2] [b, c] = false := by
  show lastMarks [o2] [c] = false
  show behindInMarks o2 c = false
  exact nomarkM h
theorem chain_ev (st : ES) (o1 o2 : COp) (a b c : IE) : evE (.chain o1 o2 a b c) st = ((evE a st).bind fun x => (evE b st).bind fun y => (cmpD o1 x y).bind fun k => if k = true then (evE c st).bind fun z => cmpD o2 y z else .ok false).bind fun c => .ok (.bl c) := by
  simp only [evE]
  cases evE a st with
  | ok x => cases evE b st with
    | ok y =>
      show (cmpD o1 x y).bind _ = ((cmpD o1 x y).bind _).bind _
      cases cmpD o1 x y with
      | ok k => cases k with
        | true => show (evE c st).bind _ = ((evE c st).bind _).bind _; cases evE c st <;> rfl
        | false => rfl
      | err _ _ => rfl
      | bad => rfl
    | err _ _ => rfl
    | bad => rfl
  | err _ _ => rfl
  | bad => rfl
theorem sE_chain (cx : Cxt F W X N sc tn cm lv) {o1 o2 : COp} {a b c : IE} {x y z : Expr} {p : Pos} (ha : PE X x (tE (gl X) F W a)) (hb : PE X y (tE (gl X) F W b)) (hc : PE X z (tE (gl X) F W c)) (hn : notSet z = true) :
    PE X (.Compare x [copOf o1, copOf o2] [y, z] p) (tE (gl X) F W (.chain o1 o2 a b c)) :=
  (pe_chain (cop_of cx.un o1) (cop_of cx.un o2) ha hb hc (last_ok hn)).weak fun σ H Q h => by
    obtain ⟨P, st, hs, h⟩ := h
    rw [chain_ev] at h
    exact chain_go hs (h.bind fun k P1 H1 _ g f => FinG.at_ g.ph f _ (ResE.of_plain rfl rfl rep_bl))
theorem sT_chain (cx : Cxt F W X N sc tn cm lv) {o1 o2 : COp} {a b c : IE} {x y z : Expr} {p : Pos} (ha : PE X x (tE (gl X) F W a)) (hb : PE X y (tE (gl X) F W b)) (hc : PE X z (tE (gl X) F W c)) (hn : notSet z = true) :
    PT X (.Compare x [copOf o1, copOf o2] [y, z] p) (tT (gl X) F W (.v (.chain o1 o2 a b c))) :=
  (pt_chain (cop_of cx.un o1) (cop_of cx.un o2) ha hb hc (last_ok hn)).weak fun σ H Q h => by
    obtain ⟨P, st, hs, h⟩ := h
    have e : evT (.v (.chain o1 o2 a b c)) st = ((evE a st).bind fun x => (evE b st).bind fun y => (cmpD o1 x y).bind fun k => if k = true then (evE c st).bind fun z => cmpD o2 y z else .ok false).bind fun k => .ok k := by
      show (evE (.chain o1 o2 a b c) st).bind tru = _
      rw [chain_ev]
      generalize ((evE a st).bind fun x => (evE b st).bind fun y => (cmpD o1 x y).bind fun k => if k = true then (evE c st).bind fun z => cmpD o2 y z else .ok false) = r
      cases r <;> rfl
    rw [e] at h
    exact chain_go (Q := fun x H' => ∃ k, x = .bl k ∧ Q k H') hs (h.bind fun k P1 H1 _ g f => ⟨k, rfl, FinG.at_ g.ph f⟩)
theorem isNon_iff {G : Glob} {P H : Hp} {d : D} {v : V} (h : Val G P H d v) : decide (v = .non) = isNon d := by
  rcases h with h | ⟨p, rfl, _, o, _, c⟩
  · cases d <;> simp only [Rep] at h <;> first
      | (subst h; rfl)
      | (obtain ⟨a, vs, rfl, _⟩ := h; rfl)
      | (obtain ⟨a, rfl, _⟩ := h; rfl)
      | (obtain ⟨a, C, dx, fs, rfl, _⟩ := h; rfl)
      | (obtain ⟨a, C, dx, o, vs, rfl, _⟩ := h; rfl)
  · cases d <;> cases o <;> simp only [Cont] at c <;> rfl
theorem sE_isN {a : IE} {x : Expr} {j : Nat} {p p' : Pos} (ha : PE X x (tE (gl X) F W a)) : PE X (.Compare x [.Is] [.Constant .none j p'] p) (tE (gl X) F W (.isN a)) :=
  (pe_cmp (pc_isN ha) rfl).weak fun σ H Q h => by
    obtain ⟨P, st, hs, h⟩ := h
    simp only [evE] at h
    refine E_bind hs h fun x v P1 H1 _ g1 r1 h1 => ?_
    show Q (.bl (decide (v = .non))) H1
    rw [isNon_iff r1.val]
    exact FinG.at_ g1.ph h1 _ (ResE.of_plain rfl rfl rep_bl)
theorem sE_notN {a : IE} {x : Expr} {j : Nat} {p p' : Pos} (ha : PE X x (tE (gl X) F W a)) : PE X (.Compare x [.IsNot] [.Constant .none j p'] p) (tE (gl X) F W (.notN a)) :=
  (pe_cmp (pc_notN ha) rfl).weak fun σ H Q h => by
    obtain ⟨P, st, hs, h⟩ := h
    simp only [evE] at h
    refine E_bind hs h fun x v P1 H1 _ g1 r1 h1 => ?_
    show Q (.bl (!decide (v = .non))) H1
    rw [isNon_iff r1.val]
    exact FinG.at_ g1.ph h1 _ (ResE.of_plain rfl rfl rep_bl)
theorem sT_isN {a : IE} {x : Expr} {j : Nat} {p p' : Pos} (ha : PE X x (tE (gl X) F W a)) : PT X (.Compare x [.Is] [.Constant .none j p'] p) (tT (gl X) F W (.v (.isN a))) :=
  (pt_cmp (pc_isN ha) rfl).weak fun σ H Q h => by
    obtain ⟨P, st, hs, h⟩ := h
    have e : evT (.v (.isN a)) st = (evE a st).bind fun x => .ok (isNon x) := by
      show ((evE a st).bind fun x => R.ok (D.bl (isNon x))).bind tru = _
      cases evE a st <;> rfl
    rw [e] at h
    refine E_bind hs h fun x v P1 H1 _ g1 r1 h1 => ⟨_, rfl, ?_⟩
    rw [isNon_iff r1.val]
    exact FinG.at_ g1.ph h1
theorem sT_notN {a : IE} {x : Expr} {j : Nat} {p p' : Pos} (ha : PE X x (tE (gl X) F W a)) : PT X (.Compare x [.IsNot] [.Constant .none j p'] p) (tT (gl X) F W (.v (.notN a))) :=
  (pt_cmp (pc_notN ha) rfl).weak fun σ H Q h => by
    obtain ⟨P, st, hs, h⟩ := h
    have e : evT (.v (.notN a)) st = (evE a st).bind fun x => .ok (!isNon x) := by
      show ((evE a st).bind fun x => R.ok (D.bl (!isNon x))).bind tru = _
      cases evE a st <;> rfl
    rw [e] at h
    refine E_bind hs h fun x v P1 H1 _ g1 r1 h1 => ⟨_, rfl, ?_⟩
    rw [isNon_iff r1.val]
    exact FinG.at_ g1.ph h1

/-! ### truth values -/
theorem sE_not {a : IE} {x : Expr} {p : Pos} (ha : PE X x (tE (gl X) F W a)) : PE X (.UnaryOp .Not x p) (tE (gl X) F W (.not a)) :=
  (pe_not ha).weak fun σ H Q h => by
    obtain ⟨P, st, hs, h⟩ := h
    simp only [evE] at h
    refine E_bind hs h fun x v P1 H1 _ g1 r1 h1 => ?_
    cases x with
    | bl b =>
      rw [r1.val.bl]
      exact ⟨b, rfl, FinG.at_ g1.ph h1 _ (ResE.of_plain rfl rfl rep_bl)⟩
    | _ => exact h1.elim
theorem sT_not {a : IQ} {x : Expr} {p : Pos} (ha : PT X x (tT (gl X) F W a)) : PT X (.UnaryOp .Not x p) (tT (gl X) F W (.not a)) :=
  (pt_not ha).weak fun σ H Q h => by
    obtain ⟨P, st, hs, h⟩ := h
    simp only [evT] at h
    exact T_bind hs h fun b P1 H1 g1 h1 => FinG.at_ g1.ph h1
theorem sE_ife {c : IQ} {a b : IE} {x y z : Expr} {p : Pos} (hb1 : isB a = false) (hb2 : isB b = false) (hc : PT X z (tT (gl X) F W c)) (ha : PE X x (tE (gl X) F W a)) (hb : PE X y (tE (gl X) F W b)) : PE X (.IfExp z x y p) (tE (gl X) F W (.ife c a b)) :=
  (pe_ifExp hc ha hb).weak fun σ H Q h => by
    obtain ⟨P, st, hs, h⟩ := h
    simp only [evE] at h
    refine T_bind hs h fun k P1 H1 g1 h1 => ?_
    cases k with
    | true =>
      rw [if_pos rfl] at h1 ⊢
      refine ⟨P1, st, hs.grow g1, ?_⟩
      cases e : evE a st with
      | ok d =>
        rw [e] at h1
        intro P2 H2 g2 v r
        obtain ⟨P3, g3, _, r3⟩ := r.store hb1 g2
        exact h1 P3 H2 g3 v (ResE.of_plain rfl rfl r3)
      | err _ _ => rw [e] at h1; exact h1
      | bad => rw [e] at h1; exact h1
    | false =>
      rw [if_neg Bool.false_ne_true] at h1 ⊢
      refine ⟨P1, st, hs.grow g1, ?_⟩
      cases e : evE b st with
      | ok d =>
        rw [e] at h1
        intro P2 H2 g2 v r
        obtain ⟨P3, g3, _, r3⟩ := r.store hb2 g2
        exact h1 P3 H2 g3 v (ResE.of_plain rfl rfl r3)
      | err _ _ => rw [e] at h1; exact h1
      | bad => rw [e] at h1; exact h1
theorem sE_and {l : IEs} {x : Expr} {xs : List Expr} {p : Pos} (h : PE X (.BoolOp .And xs p) (vAnd (gl X) F W l)) : PE X (.BoolOp .And xs p) (tE (gl X) F W (.and l)) :=
  h.weak fun σ H Q h => by
    obtain ⟨P, st, hs, h⟩ := h
    simp only [evE] at h
    exact ⟨P, st, hs, h.mono fun d P' H' g k v r => k v (ResE.of_plain rfl rfl r)⟩
theorem sE_or {l : IEs} {x : Expr} {xs : List Expr} {p : Pos} (h : PE X (.BoolOp .Or xs p) (vOr (gl X) F W l)) : PE X (.BoolOp .Or xs p) (tE (gl X) F W (.or l)) :=
  h.weak fun σ H Q h => by
    obtain ⟨P, st, hs, h⟩ := h
    simp only [evE] at h
    exact ⟨P, st, hs, h.mono fun d P' H' g k v r => k v (ResE.of_plain rfl rfl r)⟩
theorem sV_and1 {a : IE} {x : Expr} {p : Pos} (ha : PE X x (tE (gl X) F W a)) : PE X (.BoolOp .And [x] p) (vAnd (gl X) F W (.cons a .nil)) :=
  (pe_one ha).weak fun σ H Q h => by
    obtain ⟨P, st, hs, h⟩ := h
    simp only [evAnd] at h
    refine E_bind hs h fun x v P1 H1 _ g1 r1 h1 => ?_
    cases x with
    | bl k =>
      rw [r1.val.bl]
      cases k <;> exact FinG.at_ g1.ph h1 _ rep_bl
    | _ => exact h1.elim
theorem sV_or1 {a : IE} {x : Expr} {p : Pos} (ha : PE X x (tE (gl X) F W a)) : PE X (.BoolOp .Or [x] p) (vOr (gl X) F W (.cons a .nil)) :=
  (pe_one ha).weak fun σ H Q h => by
    obtain ⟨P, st, hs, h⟩ := h
    simp only [evOr] at h
    refine E_bind hs h fun x v P1 H1 _ g1 r1 h1 => ?_
    cases x with
    | bl k =>
      rw [r1.val.bl]
      cases k <;> exact FinG.at_ g1.ph h1 _ rep_bl
    | _ => exact h1.elim
theorem sV_and {a b : IE} {r : IEs} {x y : Expr} {ys : List Expr} {p : Pos} (ha : PE X x (tE (gl X) F W a)) (hb : PE X (.BoolOp .And (y :: ys) p) (vAnd (gl X) F W (.cons b r))) : PE X (.BoolOp .And (x :: y :: ys) p) (vAnd (gl X) F W (.cons a (.cons b r))) :=
  (pe_and ha hb).weak fun σ H Q h => by
    obtain ⟨P, st, hs, h⟩ := h
    simp only [evAnd] at h
    refine E_bind hs h fun x v P1 H1 _ g1 r1 h1 => ?_
    cases x with
    | bl k =>
      rw [r1.val.bl]
      refine ⟨k, rfl, ?_⟩
      cases k with
      | true => rw [if_pos rfl]; exact ⟨P1, st, hs.grow g1, by simpa only [evAnd] using h1⟩
      | false => rw [if_neg Bool.false_ne_true]; exact FinG.at_ g1.ph h1 _ rep_bl
    | _ => exact h1.elim
theorem sV_or {a b : IE} {r : IEs} {x y : Expr} {ys : List Expr} {p : Pos} (ha : PE X x (tE (gl X) F W a)) (hb : PE X (.BoolOp .Or (y :: ys) p) (vOr (gl X) F W (.cons b r))) : PE X (.BoolOp .Or (x :: y :: ys) p) (vOr (gl X) F W (.cons a (.cons b r))) :=
  (pe_or ha hb).weak fun σ H Q h => by
    obtain ⟨P, st, hs, h⟩ := h
    simp only [evOr] at h
    refine E_bind hs h fun x v P1 H1 _ g1 r1 h1 => ?_
    cases x with
    | bl k =>
      rw [r1.val.bl]
      refine ⟨k, rfl, ?_⟩
      cases k with
      | true => rw [if_pos rfl]; exact FinG.at_ g1.ph h1 _ rep_bl
      | false => rw [if_neg Bool.false_ne_true]; exact ⟨P1, st, hs.grow g1, by simpa only [evOr] using h1⟩
    | _ => exact h1.elim
theorem sW_and1 {a : IQ} {x : Expr} {p : Pos} (ha : PT X x (tT (gl X) F W a)) : PW X (.BoolOp .And [x] p) (tAnd' (gl X) F W (.cons a .nil)) :=
  (pw_and1 ha).weak fun σ H Q h => by
    obtain ⟨P, st, hs, h⟩ := h
    have e : evAndT (.cons a .nil) st = evT a st := by
      show (evT a st).bind _ = _
      cases evT a st with
      | ok k => cases k <;> rfl
      | err _ _ => rfl
      | bad => rfl
    rw [e] at h
    exact ⟨P, st, hs, h⟩
theorem sW_or1 {a : IQ} {x : Expr} {p : Pos} (ha : PT X x (tT (gl X) F W a)) : PW X (.BoolOp .Or [x] p) (tOr' (gl X) F W (.cons a .nil)) :=
  (pw_or1 ha).weak fun σ H Q h => by
    obtain ⟨P, st, hs, h⟩ := h
    have e : evOrT (.cons a .nil) st = evT a st := by
      show (evT a st).bind _ = _
      cases evT a st with
      | ok k => cases k <;> rfl
      | err _ _ => rfl
      | bad => rfl
    rw [e] at h
    exact ⟨P, st, hs, h⟩
theorem sW_and {a b : IQ} {r : IQs} {x y : Expr} {ys : List Expr} {p : Pos} (ha : PT X x (tT (gl X) F W a)) (hb : PW X (.BoolOp .And (y :: ys) p) (tAnd' (gl X) F W (.cons b r))) : PW X (.BoolOp .And (x :: y :: ys) p) (tAnd' (gl X) F W (.cons a (.cons b r))) :=
  (pw_and ha hb).weak fun σ H Q h => by
    obtain ⟨P, st, hs, h⟩ := h
    simp only [evAndT] at h
    refine T_bind hs h fun k P1 H1 g1 h1 => ?_
    cases k with
    | true => rw [if_pos rfl] at h1 ⊢; exact ⟨P1, st, hs.grow g1, by simpa only [evAndT] using h1⟩
    | false => rw [if_neg Bool.false_ne_true] at h1 ⊢; exact FinG.at_ g1.ph h1
theorem sW_or {a b : IQ} {r : IQs} {x y : Expr} {ys : List Expr} {p : Pos} (ha : PT X x (tT (gl X) F W a)) (hb : PW X (.BoolOp .Or (y :: ys) p) (tOr' (gl X) F W (.cons b r))) : PW X (.BoolOp .Or (x :: y :: ys) p) (tOr' (gl X) F W (.cons a (.cons b r))) :=
  (pw_or ha hb).weak fun σ H Q h => by
    obtain ⟨P, st, hs, h⟩ := h
    simp only [evOrT] at h
    refine T_bind hs h fun k P1 H1 g1 h1 => ?_
    cases k with
    | true => rw [if_pos rfl] at h1 ⊢; exact FinG.at_ g1.ph h1
    | false => rw [if_neg Bool.false_ne_true] at h1 ⊢; exact ⟨P1, st, hs.grow g1, by simpa only [evOrT] using h1⟩
theorem sT_and {l : IQs} {xs : List Expr} {p : Pos} (h : PW X (.BoolOp .And xs p) (tAnd' (gl X) F W l)) : PT X (.BoolOp .And xs p) (tT (gl X) F W (.and l)) :=
  h.pt.weak fun σ H Q h => by
    obtain ⟨P, st, hs, h⟩ := h
    exact ⟨P, st, hs, by simpa only [evT] using h⟩
theorem sT_or {l : IQs} {xs : List Expr} {p : Pos} (h : PW X (.BoolOp .Or xs p) (tOr' (gl X) F W l)) : PT X (.BoolOp .Or xs p) (tT (gl X) F W (.or l)) :=
  h.pt.weak fun σ H Q h => by
    obtain ⟨P, st, hs, h⟩ := h
    exact ⟨P, st, hs, by simpa only [evT] using h⟩
/-- the truth of a value -/
theorem sT_plain {a : IE} {x : Expr} (hp : plainTest x = true) (ha : PE X x (tE (gl X) F W a)) : PT X x (tT (gl X) F W (.v a)) :=
  (pt_truth ha (plainTest_ok hp)).weak fun σ H Q h => by
    obtain ⟨P, st, hs, h⟩ := h
    simp only [evT] at h
    refine E_bind hs h fun x v P1 H1 _ g1 r1 h1 => ?_
    cases e : tru x with
    | ok b => rw [e] at h1; exact ⟨b, tru_ok (G := gl X) g1.ph r1.val e, FinG.at_ g1.ph h1⟩
    | err _ _ => exfalso; unfold tru at e; split at e <;> first | cases e | (split at e <;> cases e)
    | bad => rw [e] at h1; exact h1.elim

/-! ### arguments, displays -/
theorem sA_nil : PA X [] (tAs (gl X) F W .nil) :=
  pa_nil.weak fun σ H Q h => by
    obtain ⟨P, st, hs, h⟩ := h
    simp only [evEs] at h
    exact FinG.at_ hs.ex h [] Reps.nil
theorem sA_cons {a : IE} {l : IEs} {x : Expr} {xs : List Expr} (hb : isB a = false) (hn : notStar x = true) (ha : PE X x (tE (gl X) F W a)) (hr : PA X xs (tAs (gl X) F W l)) : PA X (x :: xs) (tAs (gl X) F W (.cons a l)) :=
  (pa_cons ha hr (star_ok hn)).weak fun σ H Q h => by
    obtain ⟨P, st, hs, h⟩ := h
    simp only [evEs] at h
    refine E_bindS hb hs h fun x v P1 H1 _ g1 r1 h1 => ?_
    refine A_bind (hs.grow g1) h1 fun ds vs P2 H2 _ g2 r2 h2 => ?_
    exact FinG.at_ g2.ph h2 _ (Reps.cons (r1.mono g2.pp) r2)
theorem sE_tup {l : IEs} {xs : List Expr} {j : Nat} {p : Pos} (h : PA X xs (tAs (gl X) F W l)) : PE X (.Tuple xs j p) (tE (gl X) F W (.tup l)) :=
  (pe_tup h).weak fun σ H Q h => by
    obtain ⟨P, st, hs, h⟩ := h
    simp only [evE] at h
    refine A_bind hs h fun ds vs P1 H1 _ g1 r1 h1 => ?_
    split at h1
    · rename_i hl
      exact ⟨by rw [r1.length]; exact hl, fun q hq => h1 _ _ (Gr.laid g1.ph hq) _ (ResE.of_plain rfl rfl (Rep.tup_laid r1 (g1.ph.free hq)))⟩
    · exact h1.elim
theorem sE_lst {l : IEs} {xs : List Expr} {p : Pos} (h : PA X xs (tAs (gl X) F W l)) : PE X (.List xs p) (tE (gl X) F W (.lst l)) :=
  (pe_lst h).weak fun σ H Q h => by
    obtain ⟨P, st, hs, h⟩ := h
    simp only [evE] at h
    refine A_bind hs h fun ds vs P1 H1 _ g1 r1 h1 => ?_
    split at h1
    · rename_i hl
      exact ⟨by rw [r1.length]; exact hl, fun q hq => h1 _ _ (Gr.made g1.ph hq) _ (ResE.of_fresh rfl rfl ((FreshAt.laid g1.ph r1 hq).back g1.hh))⟩
    · exact h1.elim
theorem sE_idx (cx : Cxt F W X N sc tn cm lv) {a b : IE} {x y : Expr} {p : Pos} (hn : notSlice y = true) (ha : PE X x (tE (gl X) F W a)) (hb : PE X y (tE (gl X) F W b)) : PE X (.Subscript x y p) (tE (gl X) F W (.idx a b)) :=
  (pe_ix (ix_M cx.un) ha hb (plainIx hn)).weak fun σ H Q h => by
    obtain ⟨P, st, hs, h⟩ := h
    simp only [evE] at h
    refine E_bind hs h fun x v P1 H1 _ g1 r1 h1 => E_bind (hs.grow g1) h1 fun y u P2 H2 _ g2 r2 h2 => ?_
    cases e : idxD x y with
    | ok d =>
      rw [e] at h2
      exact idx_ok (G := gl X) g2.ph (r1.val.grow g2) r2.val e fun w r => FinG.at_ g2.ph h2 w (ResE.of_plain rfl rfl r)
    | err _ _ =>
      exfalso
      unfold idxD at e
      split at e <;> first | cases e | (unfold R.of at e; split at e <;> cases e) | (split at e <;> first | cases e | (unfold R.of at e; split at e <;> cases e))
    | bad => rw [e] at h2; exact h2.elim
theorem sO_no : PO X none (tO' (gl X) F W .no) :=
  po_none.weak fun σ H Q h => by
    obtain ⟨P, st, hs, h⟩ := h
    simp only [evO] at h
    exact FinG.at_ hs.ex h
theorem sO_some {a : IE} {x : Expr} (ha : PE X x (tE (gl X) F W a)) : PO X (some x) (tO' (gl X) F W (.some a)) :=
  (po_some ha).weak fun σ H Q h => by
    obtain ⟨P, st, hs, h⟩ := h
    simp only [evO] at h
    refine E_bind hs h fun x v P1 H1 _ g1 r1 h1 => ?_
    cases x with
    | int i =>
      rw [r1.val.int]
      exact ⟨i, rfl, FinG.at_ g1.ph h1⟩
    | _ => exact h1.elim
theorem sE_slc {a : IE} {lo hi : IO} {x : Expr} {l h : Option Expr} {p p2 : Pos} (ha : PE X x (tE (gl X) F W a)) (hl : PO X l (tO' (gl X) F W lo)) (hh : PO X h (tO' (gl X) F W hi)) : PE X (.Subscript x (.Slice l h none p2) p) (tE (gl X) F W (.slc a lo hi)) :=
  (pe_slice sl_M ha hl hh).weak fun σ H Q h => by
    obtain ⟨P, st, hs, h⟩ := h
    simp only [evE] at h
    refine E_bind hs h fun x v P1 H1 _ g1 r1 h1 => O_bind (hs.grow g1) h1 fun l P2 H2 g2 h2 => O_bind ((hs.grow g1).grow g2) h2 fun u P3 H3 g3 h3 => ?_
    cases e : sliceD x l u with
    | ok d =>
      rw [e] at h3
      refine slc_ok (G := gl X) g3.ph ((r1.val.grow g2).grow g3) e fun w P' H' g q => h3 P' H' g w ?_
      cases d <;> first
        | exact ResE.of_fresh rfl rfl (FreshAt.back ((g1.hh.trans g2.hh).trans g3.hh) q)
        | exact ResE.of_plain rfl rfl q
    | err _ _ =>
      exfalso
      unfold sliceD at e
      split at e <;> first | cases e | (split at e <;> cases e)
    | bad => rw [e] at h3; exact h3.elim

/-! ### built-ins -/
theorem sortDic_lst {t : Bool} {ks : List D} {d : D} (e : sortDic t ks = .ok d) : ∃ l, d = .lst l := by
  cases t with
  | false => obtain ⟨ns, _, h⟩ := sortDic_f e; exact ⟨_, h⟩
  | true => obtain ⟨ns, _, _, h⟩ := sortDic_t e; exact ⟨_, h⟩
theorem sortDic_noerr {t : Bool} {ks : List D} {c : Str} {p : Option (Str × D)} (e : sortDic t ks = .err c p) : False := by
  cases t with
  | false =>
    have e : (match asInts ks with
      | some ns => R.ok (D.lst ((sortI ns).map .int))
      | none => R.bad) = .err c p := e
    split at e <;> cases e
  | true =>
    have e : (match asTups ks with
      | some ts => if ts.all (fun (t : List Int) => !t.isEmpty) then R.ok (D.lst ((sortT ts).map fun (t : List Int) => D.tup (t.map D.int))) else R.bad
      | none => R.bad) = .err c p := e
    split at e
    · split at e <;> cases e
    · cases e
theorem b1_fresh {f : B1} {a : IE} {x d : D} (hf : f.fresh = true) (e : b1D f x = .ok d) : frE (.b1 f a) d = true := by
  have key : ∃ l, d = .lst l := by
    have srt : ∀ l : List D, (sortD l).bind (fun r => R.ok (D.lst r)) = .ok d → ∃ l, d = .lst l := fun l e => by
      cases q : sortD l with
      | ok r => rw [q] at e; exact ⟨_, (R.ok.inj e).symm⟩
      | err _ _ => rw [q] at e; cases e
      | bad => rw [q] at e; cases e
    have no : (R.bad : R D) = R.ok d → ∃ l, d = .lst l := fun h => by cases h
    cases f <;> first | cases hf | skip
    · cases x <;> first | exact ⟨_, (R.ok.inj e).symm⟩ | exact no e
    · cases x <;> first | exact srt _ e | exact sortDic_lst e | exact no e
  obtain ⟨l, rfl⟩ := key
  exact hf
/-- one operand, not put among what is for good -/
theorem sE_b1 (c : Cxt F W X N sc tn true lv) {f : B1} {a : IE} {x : Expr} {p pos : Pos} (hg : glB sc f.nm = true) (hn : notStar x = true) (ha : PE X x (tE (gl X) F W a)) : PE X (.Call (.Name f.nm p) [x] [] pos) (tE (gl X) F W (.b1 f a)) := by
  have hA : PA X [x] (tCons (tE (gl X) F W a) tNil) := pa_cons ha pa_nil (star_ok hn)
  have hG : Gl X f.nm := gl_of (by rw [c.hs]; exact hg)
  have hm : X.mg f.nm = none := c.bi _ (by cases f <;> decide)
  have hpl : (backTo pos (starEach ([] : List Expr) X.env)).any (·.1) = false := rfl
  have go : ∀ σ H Q, tE (gl X) F W (.b1 f a) σ H Q → tCB (rB1 (gl X) f) (tCons (tE (gl X) F W a) tNil) σ H Q := fun σ H Q h => by
    obtain ⟨P, st, hs, h⟩ := h
    simp only [evE] at h
    refine E_bind hs h fun x v P1 H1 _ g1 r1 h1 => ?_
    show rB1 (gl X) f [v] H1 Q
    cases e : b1D f x with
    | ok d =>
      rw [e] at h1
      refine b1_ok (G := gl X) g1.ph r1.val e fun w P' H' g q => h1 P' H' g w ?_
      unfold ResB at q
      split at q
      · rename_i hf
        exact ResE.of_fresh rfl (b1_fresh hf e) (q.back g1.hh)
      · rename_i hf
        exact ResE.of_plain rfl (by cases d <;> first | rfl | (show f.fresh = false; cases f <;> first | rfl | (exact absurd rfl hf))) q
    | err _ _ =>
      exfalso
      unfold b1D at e
      have hsd : ∀ l c p, sortD l ≠ .err c p := fun l c p h => by
        unfold sortD at h
        split at h
        · cases h
        · split at h
          · split at h <;> cases h
          · cases l with
            | nil => cases h
            | cons d r =>
              have h : (match shD d with
                | some (.t n :: sh) => if (d :: r).all (fun e => decide (shD e = some (.t n :: sh))) = true then R.ok ((d :: r).mergeSort fun a b => lexLe (keyT a) (keyT b)) else R.bad
                | _ => R.bad) = R.err c p := h
              split at h
              · split at h <;> cases h
              · cases h
      split at e <;> first
        | cases e
        | exact sortDic_noerr e
        | (split at e <;> cases e)
        | (cases q : sortD _ with
           | ok _ => rw [q] at e; cases e
           | err c' p' => exact hsd _ _ _ q
           | bad => rw [q] at e; cases e)
        | (cases q : asInts _ with
           | none => rw [q] at e; cases e
           | some _ => rw [q] at e; cases e)
        | (cases q : asBools _ with
           | none => rw [q] at e; cases e
           | some _ => rw [q] at e; cases e)
    | bad => rw [e] at h1; exact h1.elim
  cases ht : f.isTy with
  | false =>
    have hv : f.val = .builtin f.id := by unfold B1.val; rw [ht]; rfl
    have hc : CallR X (.builtin f.id) (rB1 (gl X) f) := by rw [← hv]; exact b1_of (c.calm rfl) (by have := c.un; omega) f
    exact (pe_callB hc hG hm (by rw [← hv]; exact f.boot) hA (by cases f <;> decide) (by cases f <;> decide) (star_ok hn) hpl).weak go
  | true =>
    have hv : f.val = .type f.id := by unfold B1.val; rw [ht]; rfl
    have hc : CallR X (.type f.id) (rB1 (gl X) f) := by rw [← hv]; exact b1_of (c.calm rfl) (by have := c.un; omega) f
    exact (pe_callTy hc hG hm (by rw [← hv]; exact f.boot) hA (by cases f <;> decide) (by cases f <;> decide) (star_ok hn) hpl).weak go
theorem sE_b2 (c : Cxt F W X N sc tn true lv) {f : B2} {a b : IE} {x y : Expr} {p pos : Pos} (hg : glB sc f.nm = true) (hn : notStar x = true) (hn2 : notStar y = true) (ha : PE X x (tE (gl X) F W a)) (hb : PE X y (tE (gl X) F W b)) :
    PE X (.Call (.Name f.nm p) [x, y] [] pos) (tE (gl X) F W (.b2 f a b)) := by
  have hA : PA X [x, y] (tCons (tE (gl X) F W a) (tCons (tE (gl X) F W b) tNil)) := pa_cons ha (pa_cons hb pa_nil (star_ok hn2)) (star_ok hn)
  have hG : Gl X f.nm := gl_of (by rw [c.hs]; exact hg)
  have hm : X.mg f.nm = none := c.bi _ (by cases f <;> decide)
  refine (pe_callB (b2_of (c.calm rfl) f) hG hm f.boot hA (by cases f <;> decide) (by cases f <;> decide) (star_ok hn) (plain_ok fun e he => by rw [List.mem_singleton.mp he]; exact hn2)).weak fun σ H Q h => ?_
  obtain ⟨P, st, hs, h⟩ := h
  simp only [evE] at h
  refine E_bind hs h fun x v P1 H1 _ g1 r1 h1 => E_bind (hs.grow g1) h1 fun y u P2 H2 _ g2 r2 h2 => ?_
  show rB2 f [v, u] H2 Q
  cases e : b2D f x y with
  | ok d =>
    rw [e] at h2
    exact b2_ok (G := gl X) g2.ph (r1.val.grow g2) r2.val e fun w r => FinG.at_ g2.ph h2 w (ResE.of_plain rfl rfl r)
  | err _ _ =>
    exfalso
    unfold b2D at e
    split at e <;> cases e
  | bad => rw [e] at h2; exact h2.elim
end
end M
set_option Elab.async false
set_option linter.all false
set_option maxRecDepth 100000
set_option maxHeartbeats 2000000
/-! M, part G: calls, objects, names of the module. -/
namespace M
open PySem L2 PySem.Spec PyProof.Rows

/-! ### promises -/
/-- a def that changes nothing: its value is F of its arguments -/
def spD (G : Glob) (n : Nat) (F : List D → R D) : Sp := fun vs H Q E => vs.length = n ∧ ∃ P ds, Same P H ∧ Reps G P ds vs ∧
  FinG G (fun cls d _ H' => E cls d H') [] P H (F ds) fun d P' H' => ∀ v, Rep G P' d v → Q v H'
structure GrM (B P P' H' : Hp) : Prop where
  pp : Same P P'
  bh : Same B H'
  ph : Same P' H'
  nw : ∀ a o, P' a = some o → P a = some o ∨ NewAt B a o
def ArgsOk (G : Glob) (mu : List Nat) (B P H : Hp) (ds : List D) (vs : List V) : Prop :=
  vs.length = ds.length ∧ (∀ (i : Nat) (d : D) (v : V), ds[i]? = some d → vs[i]? = some v → if i ∈ mu then ∃ a, v = .ref a ∧ B a = none ∧ OwnAt G P H a d else Rep G P d v) ∧
    ∀ (i j : Nat) (a : Addr), i ≠ j → i ∈ mu → j ∈ mu → vs[i]? = some (V.ref a) → vs[j]? = some (V.ref a) → False
/-- a def that changes what is handed in at the places mu: its value, and what stands there -/
def spM (G : Glob) (n : Nat) (mu : List Nat) (F : List D → R (D × List D)) : Sp := fun vs H Q E => vs.length = n ∧ ∃ B P ds, Same P H ∧ Same B H ∧ ArgsOk G mu B P H ds vs ∧
  match F ds with
  | .ok (d, nd) => ∀ v P' H', GrM B P P' H' → Rep G P' d v → (∀ (i : Nat) (a : Addr) (d' : D), i ∈ mu → vs[i]? = some (V.ref a) → nd[i]? = some d' → OwnAt G P' H' a d') → Q v H'
  | .err c p => ∀ P' H' cls dx, GrM B P P' H' → ExcAt G P' c p cls dx → E cls dx H'
  | .bad => False
def fstR {α β : Type} : R (α × β) → R α
  | .ok (a, _) => .ok a
  | .err c p => .err c p
  | .bad => .bad
theorem spD_of_M {G : Glob} {n : Nat} {F : List D → R (D × List D)} {F' : List D → R D} (e : ∀ ds, F' ds = fstR (F ds)) : ∀ vs H Q E, spD G n F' vs H Q E → spM G n [] F vs H Q E := by
  intro vs H Q E h
  obtain ⟨hn, P, ds, s, r, f⟩ := h
  refine ⟨hn, H, P, ds, s, Same.refl _, ⟨r.length, fun i d v e1 e2 => ?_, fun i j a _ hi => (by cases hi)⟩, ?_⟩
  · rw [if_neg (by simp)]
    obtain ⟨v', e3, r'⟩ := r.get e1
    rw [e2] at e3
    cases e3
    exact r'
  · rw [e] at f
    cases q : F ds with
    | ok x =>
      obtain ⟨d, nd⟩ := x
      rw [q] at f
      exact fun v P' H' g rv _ => f P' H' ⟨g.pp, g.bh, g.ph, g.nw⟩ v rv
    | err c p =>
      rw [q] at f
      exact fun P' H' cls dx g x => f P' H' cls dx ⟨g.pp, g.bh, g.ph, g.nw⟩ x
    | bad => rw [q] at f; exact f

structure CallOk (G : Glob) (lv : Nat) (x : Str) (n : Nat) (F : List D → R D) : Prop where
  ex : ∃ (k : Nat) (f : Addr) (fd : FuncData) (ps : List Str), k ≤ lv ∧ FnOk G.P G.w G.K G.mg G.base (L2.CX G.P G.w) k f fd ps (spD G n F) ∧ G.mg x = some (.ref f) ∧ PySem.W.keepIn G.K (.ref f) = true ∧ Binds G.K fd ps []
/-- .. that changes what is handed in at the places mu -/
structure CallMOk (G : Glob) (lv : Nat) (x : Str) (n : Nat) (mu : List Nat) (F : List D → R (D × List D)) : Prop where
  ex : ∃ (k : Nat) (f : Addr) (fd : FuncData) (ps : List Str), k ≤ lv ∧ FnOk G.P G.w G.K G.mg G.base (L2.CX G.P G.w) k f fd ps (spM G n mu F) ∧ G.mg x = some (.ref f) ∧ PySem.W.keepIn G.K (.ref f) = true ∧ Binds G.K fd ps []
structure PropOk (G : Glob) (lv : Nat) (c f : Str) (F : List D → R D) : Prop where
  ex : ∃ (C p g : Addr) (fd : FuncData) (k : Nat) (ps : List Str), k + 1 ≤ lv ∧ G.mg c = some (.ref C) ∧ Cls G.K C ∧ PropOf G.K C f p g ∧ FnOk G.P G.w G.K G.mg G.base (L2.CX G.P G.w) k g fd ps (spD G 1 F) ∧ Binds G.K fd ps []
structure MethOk (G : Glob) (lv : Nat) (c m : Str) (n : Nat) (F : List D → R D) : Prop where
  ex : ∃ (C g : Addr) (fd : FuncData) (k : Nat) (ps : List Str), k ≤ lv ∧ G.mg c = some (.ref C) ∧ Cls G.K C ∧ Meth G.K C m g ∧ FnOk G.P G.w G.K G.mg G.base (L2.CX G.P G.w) k g fd ps (spD G (n + 1) F) ∧ Binds G.K fd ps []
def initR : R (D × List D) → R D
  | .ok (.non, .obj c ns vs :: _) => .ok (.obj c ns vs)
  | .err c p => .err c p
  | _ => .bad
structure MakeOk (G : Glob) (lv : Nat) (c : Str) (n : Nat) (F : List D → R D) : Prop where
  ex : ∃ (C f : Addr) (fd : FuncData) (k : Nat) (ps : List Str) (FM : List D → R (D × List D)), k + 1 ≤ lv ∧ G.mg c = some (.ref C) ∧ Mk G.K C f ∧ FnOk G.P G.w G.K G.mg G.base (L2.CX G.P G.w) k f fd ps (spM G (n + 1) [0] FM) ∧ Binds G.K fd ps [] ∧
    ∀ ds, F ds = initR (FM (.obj c [] [] :: ds))
structure GlobOk (G : Glob) (x : Str) (d : D) : Prop where
  ex : ∃ (u : Value) (v : V), G.mg x = some u ∧ RelV v u ∧ ∀ P, Rep G P d v
def lenEs : IEs → Nat
  | .nil => 0
  | .cons _ r => lenEs r + 1
theorem evEs_len {st : ES} : ∀ {l : IEs} {ds : List D}, evEs l st = .ok ds → ds.length = lenEs l
  | .nil, ds, h => by simp only [evEs] at h; cases h; rfl
  | .cons a r, ds, h => by
    simp only [evEs] at h
    cases e1 : evE a st with
    | ok x =>
      rw [e1] at h
      have h2 : ((evEs r st).bind fun xs => R.ok (x :: xs)) = .ok ds := h
      cases e2 : evEs r st with
      | ok xs =>
        rw [e2] at h2
        cases h2
        show xs.length + 1 = lenEs r + 1
        rw [evEs_len e2]
      | err _ _ => rw [e2] at h2; cases h2
      | bad => rw [e2] at h2; cases h2
    | err _ _ => rw [e1] at h; cases h
    | bad => rw [e1] at h; cases h

section
variable {X : Cx} {F : Fx} {W : WX} {N : List Str} {sc : Scope} {tn : List (Str × NameKind)} {lv : Nat}
theorem FinG.asCall {G : Glob} {σ : L2.St} {P H : Hp} {r : R D} {K : D → Hp → Hp → Prop} (h : FinG G W σ P H r K) : FinG G (fun cls d _ H' => W cls d σ H') [] P H r K := by
  cases r with
  | ok a => exact h
  | err c p => exact h
  | bad => exact h
theorem sE_call (c : Cxt F W X N sc tn true lv) {x : Str} {n : Nat} {Fn : List D → R D} {l : IEs} {e : Expr} {es : List Expr} {p pos : Pos} (hc : CallOk (gl X) lv x n Fn) (hl : lenEs l = n) (hg : glB sc x = true) (hd : (x == ("__debug__" : Str)) = false)
    (hn : ∀ y ∈ e :: es, notStar y = true) (ha : PA X (e :: es) (tAs (gl X) F W l)) : PE X (.Call (.Name x p) (e :: es) [] pos) (tE (gl X) F W (.call x Fn l)) := by
  obtain ⟨k, f, fd, ps, hk, hf, hm, hkeep, hb⟩ := hc.ex
  refine (pe_callS hf ((c.room rfl).mono hk) (gl_of (by rw [c.hs]; exact hg)) hm hkeep hb (fun σ => passAt c.tk σ) ha hd (star_ok (hn e List.mem_cons_self)) (plain_ok fun y hy => hn y (List.mem_cons_of_mem _ hy))).weak fun σ H Q h => ?_
  obtain ⟨P, st, hs, h⟩ := h
  simp only [evE] at h
  refine A_bind hs h fun ds vs P1 H1 e1 g1 r1 h1 => ⟨by rw [r1.length, evEs_len e1, hl], P1, ds, g1.ph, r1, ?_⟩
  exact h1.asCall.mono fun d P' H' _ k v r => k v (ResE.of_plain rfl rfl r)
theorem sE_glob {cm : Bool} (c : Cxt F W X N sc tn cm lv) {x : Str} {d : D} {p : Pos} (h : GlobOk (gl X) x d) (hg : glB sc x = true) (hd : (x == ("__debug__" : Str)) = false) : PE X (.Name x p) (tE (gl X) F W (.glob x d)) := by
  obtain ⟨u, v, hm, r, hr⟩ := h.ex
  exact sE_const (pe_glob (gl_of (by rw [c.hs]; exact hg)) hm r hd) (fun st => rfl) rfl (by cases d <;> rfl) hr
theorem sE_prop (c : Cxt F W X N sc tn true lv) {cl f : Str} {Fn : List D → R D} {a : IE} {e : Expr} {pos : Pos} (hp : PropOk (gl X) lv cl f Fn) (hb : isB a = false) (he : PE X e (tE (gl X) F W a)) (hc : notCall0 e = true) :
    PE X (.Attribute e f pos) (tE (gl X) F W (.prop cl f Fn a)) := by
  obtain ⟨C, p, g, fd, k, ps, hk, hm, hcls, hprop, hf, hbd⟩ := hp.ex
  refine (pe_prop he hcls hprop hf ((c.room rfl).mono hk) hbd .nil passL (base_ok hc)).weak fun σ H Q h => ?_
  obtain ⟨P, st, hs, h⟩ := h
  simp only [evE] at h
  refine E_bindS hb hs h fun x v P1 H1 _ g1 r1 h1 => ?_
  cases x with
  | obj c' ns vs =>
    simp only at h1
    split at h1
    · rename_i hcc
      subst hcc
      obtain ⟨a, C', dx, fs, rfl, h2, h3, h4, h5⟩ := id (show ∃ a C dx fs, v = V.ref a ∧ (gl X).mg c' = some (.ref C) ∧ P1 a = some (.ins C dx fs) ∧ fs.map (·.1) = ns ∧ Reps (gl X) P1 vs (fs.map (·.2)) from by simpa only [Rep] using r1)
      have e : C' = C := by rw [hm] at h2; cases h2; rfl
      subst e
      refine ⟨a, dx, fs, rfl, g1.ph _ _ h3, rfl, P1, [.obj c' ns vs], g1.ph, Reps.cons r1 Reps.nil, ?_⟩
      cases q : Fn [.obj c' ns vs] with
      | ok d =>
        rw [q] at h1
        exact fun P' H' g v r => h1 P' H' g v (ResE.of_plain rfl rfl r)
      | err _ _ => rw [q] at h1; exact h1.elim
      | bad => rw [q] at h1; exact h1.elim
    · exact h1.elim
  | _ => exact h1.elim

/-! ### fields, len(set(..)) -/
structure FldOk (G : Glob) (c f : Str) : Prop where
  ex : ∃ C, G.mg c = some (.ref C) ∧ Cls G.K C ∧ NoAttr G.K C f
theorem fldD_ok {G : Glob} {P : Hp} {f : Str} {d : D} : ∀ {fs : List (Str × V)} {ds : List D}, Reps G P ds (fs.map (·.2)) → fldD f (fs.map (·.1)) ds = .ok d → ∃ v, fs.lookup f = some v ∧ Rep G P d v
  | [], _, _, e => by simp [fldD] at e
  | (n, v) :: r, [], h, e => by have := h.nil_inv; cases this
  | (n, v) :: r, x :: xs, h, e => by
    obtain ⟨u, us, e1, h1, h2⟩ := h.cons_inv
    cases e1
    have e : (if n = f then R.ok x else fldD f (r.map (·.1)) xs) = .ok d := e
    rw [List.lookup_cons]
    by_cases hn : n = f
    · rw [if_pos hn] at e
      cases e
      subst hn
      exact ⟨v, by rw [beq_self_eq_true], h1⟩
    · rw [if_neg hn] at e
      have : (f == n) = false := beq_eq_false_iff_ne.mpr (Ne.symm hn)
      rw [this]
      exact fldD_ok h2 e
theorem fldD_noerr {f : Str} {c : Str} {p : Option (Str × D)} : ∀ {ns : List Str} {ds : List D}, fldD f ns ds ≠ .err c p
  | [], _, e => by simp [fldD] at e
  | _ :: _, [], e => by simp [fldD] at e
  | n :: ns, x :: xs, e => by
    have e : (if n = f then R.ok x else fldD f ns xs) = .err c p := e
    split at e
    · cases e
    · exact fldD_noerr e
theorem sE_fld {cm : Bool} (c : Cxt F W X N sc tn cm lv) {cl f : Str} {a : IE} {e : Expr} {pos : Pos} (hp : FldOk (gl X) cl f) (he : PE X e (tE (gl X) F W a)) (hc : notCall0 e = true) :
    PE X (.Attribute e f pos) (tE (gl X) F W (.fld cl f a)) := by
  obtain ⟨C, hm, hcls, hno⟩ := hp.ex
  refine (pe_fld he (base_ok hc)).weak fun σ H Q h => ?_
  obtain ⟨P, st, hs, h⟩ := h
  simp only [evE] at h
  refine E_bind hs h fun x v P1 H1 _ g1 r1 h1 => ?_
  cases x with
  | obj c' ns vs =>
    have h1 : FinG (gl X) W σ P1 H1 (if c' = cl then fldD f ns vs else .bad) (fun d P' H' => ∀ v, ResE (gl X) (.fld cl f a) H P' H' d v → Q v H') := h1
    split at h1
    · rename_i hcc
      subst hcc
      have key : ∃ a dx fs, v = V.ref a ∧ H1 a = some (.ins C dx fs) ∧ fs.map (·.1) = ns ∧ Reps (gl X) P1 vs (fs.map (·.2)) := by
        rcases r1.val with r | ⟨p, rfl, o⟩
        · simp only [Rep] at r
          obtain ⟨a, C', dx, fs, rfl, h2, h3, h4, h5⟩ := r
          have e : C' = C := by have z := hm.symm.trans h2; cases z; rfl
          subst e
          exact ⟨a, dx, fs, rfl, g1.ph _ _ h3, h4, h5⟩
        · obtain ⟨oo, k1, k2⟩ := o.at_
          cases oo <;> simp only [Cont] at k2
          obtain ⟨k3, k4, k5⟩ := k2
          rename_i C' dx fs
          have e : C' = C := by have z := hm.symm.trans k3; cases z; rfl
          subst e
          exact ⟨p, dx, fs, rfl, k1, k4, k5⟩
      obtain ⟨a', dx, fs, rfl, k1, rfl, k3⟩ := key
      cases q : fldD f (fs.map (·.1)) vs with
      | ok d =>
        rw [q] at h1
        obtain ⟨u, hu, ru⟩ := fldD_ok k3 q
        exact ⟨a', C, dx, fs, u, rfl, k1, hcls, hno, hu, FinG.at_ g1.ph h1 u (ResE.of_plain rfl rfl ru)⟩
      | err _ _ => exact absurd q fldD_noerr
      | bad => rw [q] at h1; exact h1.elim
    · exact h1.elim
  | _ => exact h1.elim
/-! ### methods -/
theorem meth_tree {o : Expr} {m : Str} {apos pos : Pos} {args : List Expr} {env : Env} (hb : attributeBase o m env (eval o env) = eval o env)
    (hf : methodCallForm args.length (backTo pos (starEach args env)) (backToKw pos (keywordEach [] env)) = true) (hl : (apos.endLine == pos.line) = true) :
    eval (.Call (.Attribute o m apos) args [] pos) env = (do
      let ov ← eval o env
      standAt apos.atName
      let (f, first) ← holding [ov] (getMethod ov m (do return (← importBound o env).getD true))
      callWith pos f first (backTo pos (starEach args env)) (backToKw pos (keywordEach [] env))) := by
  show (do
      let ov ← attributeBase o m env (eval o env)
      standAt apos.atName
      methodCall o m apos pos env ov (args.length + ([] : List Keyword).length) (backTo pos (starEach args env)) (backToKw pos (keywordEach [] env))) = _
  rw [hb]
  have h0 : args.length + ([] : List Keyword).length = args.length := rfl
  unfold methodCall calleeOf methodCallPos
  rw [h0, hf, hl]
  rfl
theorem form_ok {pos : Pos} {env : Env} {args : List Expr} (h : ∀ e ∈ args, notStar e = true) (hl : args.length < 30) : methodCallForm args.length (backTo pos (starEach args env)) (backToKw pos (keywordEach [] env)) = true := by
  have h1 : ∀ {es : List Expr}, (∀ e ∈ es, notStar e = true) → (backTo pos (starEach es env)).all (!·.1) = true := by
    intro es
    induction es with
    | nil => intro _; rfl
    | cons e es ih =>
      intro h
      rw [star_ok (h e List.mem_cons_self)]
      show (true && (backTo pos (starEach es env)).all (!·.1)) = true
      rw [ih fun x hx => h x (List.mem_cons_of_mem _ hx)]
      rfl
  unfold methodCallForm
  rw [h1 h]
  show (true && true && decide (args.length + 0 < 30)) = true
  simp only [Nat.add_zero, hl, decide_true, Bool.and_self]
def tMethS (C : Addr) (m : Str) (sp : Sp) (E : L2.St → XK) (ta : TE) (t : TA) : TE := fun σ H Q => ta σ H fun x H1 => ∃ a dx fs, x = .ref a ∧ H1 a = some (.ins C dx fs) ∧ fs.lookup m = none ∧
  t σ H1 fun vs H2 => sp (x :: vs) H2 Q (E σ)
theorem pe_methS {CX : CXT} {C f : Addr} {k : Nat} {fd : FuncData} {ps : List Str} {sp : Sp} {E : L2.St → XK} {ta : TE} {t : TA} {o e : Expr} {es : List Expr} {m : Str} {apos pos : Pos} (he : PE X o ta) (c : Cls X.K C) (hm : Meth X.K C m f)
    (Fo : FnOk X.prog X.w X.K X.mg X.base CX k f fd ps sp) (hr : Room k X.A) (hb : Binds X.K fd ps []) (hx : ∀ σ, PassesAt CX X σ (E σ)) (ha : PA X (e :: es) t)
    (hn : ∀ y ∈ e :: es, notStar y = true) (hl : (e :: es).length < 30) (hc : notCall0 o = true) (hline : (apos.endLine == pos.line) = true) :
    PE X (.Call (.Attribute o m apos) (e :: es) [] pos) (tMethS C m sp E ta t) := by
  refine ⟨fun pins s σ H Q I h => ?_⟩
  refine PySem.W.methodCall_KW (thn (he.run pins s σ H _ I h) fun u s1 ⟨x, H1, I1, rx, a, dx, fs, ex, ea, l, q⟩ => ?_) (meth_tree (base_ok hc) (form_ok hn hl) hline)
  subst ex
  obtain rfl : u = Value.ref a := rx
  refine getmeth_ok I1 ea c hm l ?_
  refine PySem.W.callWith_K (first := [.ref a]) (h₀ := X.base) I.ok.mod.kin hm.kp (thn (ha.run pos pins s1 σ H1 _ I1 q) fun us s2 ⟨vs, H2, I2, r, q2⟩ => ⟨I2.kIn, ?_⟩) (star_ok (hn e List.mem_cons_self)) (plain_ok fun y hy => hn y (List.mem_cons_of_mem _ hy))
  exact run_fnS (us := .ref a :: us) (vs := .ref a :: vs) Fo hr hb (hx σ) I2 (.cons rfl r) q2
theorem lookup_none_of {fs : List (Str × V)} {m : Str} (h : m ∉ fs.map (·.1)) : fs.lookup m = none := by
  induction fs with
  | nil => rfl
  | cons p r ih =>
    obtain ⟨n, v⟩ := p
    simp only [List.map_cons, List.mem_cons, not_or] at h
    rw [List.lookup_cons]
    have e : (m == n) = false := beq_eq_false_iff_ne.mpr h.1
    rw [e]
    exact ih h.2
theorem sE_meth (c : Cxt F W X N sc tn true lv) {cl m : Str} {n : Nat} {Fn : List D → R D} {a : IE} {l : IEs} {o e : Expr} {es : List Expr} {apos pos : Pos} (hp : MethOk (gl X) lv cl m n Fn) (hlen : lenEs l = n) (hb : isB a = false) (he : PE X o (tE (gl X) F W a))
    (ha : PA X (e :: es) (tAs (gl X) F W l)) (hn : ∀ y ∈ e :: es, notStar y = true) (hl : (e :: es).length < 30) (hc : notCall0 o = true) (hline : (apos.endLine == pos.line) = true) :
    PE X (.Call (.Attribute o m apos) (e :: es) [] pos) (tE (gl X) F W (.meth cl m Fn a l)) := by
  obtain ⟨C, g, fd, k, ps, hk, hm, hcls, hmeth, hf, hbd⟩ := hp.ex
  refine (pe_methS he hcls hmeth hf ((c.room rfl).mono hk) hbd (fun σ => passAt c.tk σ) ha hn hl hc hline).weak fun σ H Q h => ?_
  obtain ⟨P, st, hs, h⟩ := h
  simp only [evE] at h
  refine E_bindS hb hs h fun x v P1 H1 _ g1 r1 h1 => ?_
  cases x with
  | obj c' ns vs =>
    simp only at h1
    split at h1
    · rename_i hcc
      obtain ⟨hcc, hns⟩ := hcc
      subst hcc
      obtain ⟨a, C', dx, fs, rfl, h2, h3, h4, h5⟩ := id (show ∃ a C dx fs, v = V.ref a ∧ (gl X).mg c' = some (.ref C) ∧ P1 a = some (.ins C dx fs) ∧ fs.map (·.1) = ns ∧ Reps (gl X) P1 vs (fs.map (·.2)) from by simpa only [Rep] using r1)
      have e : C' = C := by rw [hm] at h2; cases h2; rfl
      subst e
      refine ⟨a, dx, fs, rfl, g1.ph _ _ h3, lookup_none_of (by rw [h4]; exact hns), ?_⟩
      refine A_bind (hs.grow g1) h1 fun ds us P2 H2 e1 g2 r2 h6 => ⟨?_, P2, .obj c' ns vs :: ds, g2.ph, Reps.cons (r1.mono g2.pp) r2, ?_⟩
      · show us.length + 1 = n + 1
        rw [r2.length, evEs_len e1, hlen]
      · exact h6.asCall.mono fun d P' H' _ k v r => k v (ResE.of_plain rfl rfl r)
    · exact h1.elim
  | _ => exact h1.elim

/-! ### objects made -/
theorem run_makeS {CX : CXT} {C f : Addr} {k : Nat} {fd : FuncData} {ps : List Str} {sp : Sp} {E : XK} {pins : List (Addr × Obj)} {σ : L2.St} {H : Hp} {s : Shared} {Q : VK} {us : List Value} {vs : List V} (M : Mk X.K C f) (Fo : FnOk X.prog X.w X.K X.mg X.base CX k f fd ps sp) (hr : Room (k + 1) X.A) (hb : Binds X.K fd ps [])
    (hx : PassesAt CX X σ E) (I : Inv X pins σ H s) (r : Vals vs us)
    (h : ∀ x dx, H x = none → H dx = none → dx ≠ x → sp (.ref x :: vs) (upd (upd H dx (.own x)) x (.ins C dx [])) (fun v H2 => v = .non ∧ Q (.ref x) H2) E) :
    wpAny (model X.prog X.w) X.A (call (.ref C) us) (EP X pins σ Q) X.xe s := by
  have hq := h (s.heap.objs.size + 1) s.heap.objs.size (I.hok.fresh (Nat.le_succ _)) (I.hok.fresh (Nat.le_refl _)) (Nat.ne_of_lt (Nat.lt_succ_self _))
  have I2 := Inv.made (C := C) I
  have r2 : Vals (V.ref (s.heap.objs.size + 1) :: vs) (Value.ref (s.heap.objs.size + 1) :: us) := .cons rfl r
  have hl : (Value.ref (s.heap.objs.size + 1) :: us ++ []).length = ps.length := by
    have e := r2.length
    rw [Fo.len _ _ _ _ hq] at e
    rw [List.append_nil]
    exact e.symm
  have hbb := hb { s with heap := (s.heap.push PySem.W.emptyDict).push (PySem.W.instObj C s.heap.objs.size) } (Value.ref (s.heap.objs.size + 1) :: us) I2.kIn hl
  rw [List.append_nil] at hbb
  refine wpAny_call (make_map (f := f) I.kIn M.makes M.init (beq_iff_eq.mp M.fn) (codeAny_mono (Fo.run _ X.stack _ _ ⟨Value.ref (s.heap.objs.size + 1) :: us, []⟩ (Value.ref (s.heap.objs.size + 1) :: us) _ _ E (hr.make C us [])
    (I2.env0.make C us []) hbb r2 hq) fun r s' hq' => ?_))
  cases r with
  | error e => exact hx pins _ _ e s' I2 hq'
  | ok fl =>
    cases fl with
    | ret u =>
      obtain ⟨v, H', I3, rv, ev, q3⟩ := I2.after hq'
      subst ev
      exact ⟨rv, ⟨V.ref (s.heap.objs.size + 1), H', I3, rfl, q3⟩⟩
    | next => exact False.elim hq'
    | brk => exact False.elim hq'
    | cont => exact False.elim hq'
def tMakeS (C : Addr) (sp : Sp) (E : L2.St → XK) (t : TA) : TE := fun σ H Q => t σ H fun vs H1 => ∀ x dx, H1 x = none → H1 dx = none → dx ≠ x →
  sp (.ref x :: vs) (upd (upd H1 dx (.own x)) x (.ins C dx [])) (fun v H2 => v = .non ∧ Q (.ref x) H2) (E σ)
theorem pe_makeS {CX : CXT} {C f : Addr} {k : Nat} {fd : FuncData} {ps : List Str} {sp : Sp} {E : L2.St → XK} {t : TA} {x : Str} {e : Expr} {es : List Expr} {p pos : Pos} (M : Mk X.K C f) (Fo : FnOk X.prog X.w X.K X.mg X.base CX k f fd ps sp) (hr : Room (k + 1) X.A) (hg : Gl X x) (hm : X.mg x = some (.ref C)) (hb : Binds X.K fd ps [])
    (hx : ∀ σ, PassesAt CX X σ (E σ)) (ha : PA X (e :: es) t) (hdb : (x == ("__debug__" : Str)) = false) (hn : ∀ y ∈ e :: es, notStar y = true) :
    PE X (.Call (.Name x p) (e :: es) [] pos) (tMakeS C sp E t) := by
  refine ⟨fun pins s σ H Q I h => ?_⟩
  refine wpAny_Call_Name_kw (ld_glob I hg hm ?_ hdb)
  refine PySem.W.callWith_K (h₀ := X.base) I.ok.mod.kin M.kp (thn (ha.run pos pins s σ H _ I h) fun us s1 ⟨vs, H1, I1, r, q⟩ => ⟨I1.kIn, ?_⟩) (star_ok (hn e List.mem_cons_self)) (plain_ok fun y hy => hn y (List.mem_cons_of_mem _ hy))
  exact run_makeS M Fo hr hb (hx σ) I1 r q
theorem sE_make (c : Cxt F W X N sc tn true lv) {x : Str} {n : Nat} {Fn : List D → R D} {l : IEs} {e : Expr} {es : List Expr} {p pos : Pos} (hc : MakeOk (gl X) lv x n Fn) (hl : lenEs l = n) (hg : glB sc x = true) (hd : (x == ("__debug__" : Str)) = false)
    (hn : ∀ y ∈ e :: es, notStar y = true) (ha : PA X (e :: es) (tAs (gl X) F W l)) : PE X (.Call (.Name x p) (e :: es) [] pos) (tE (gl X) F W (.make x Fn l)) := by
  obtain ⟨C, f, fd, k, ps, FM, hk, hm, hmk, hf, hb, hF⟩ := hc.ex
  refine (pe_makeS hmk hf ((c.room rfl).mono hk) (gl_of (by rw [c.hs]; exact hg)) hm hb (fun σ => passAt c.tk σ) ha hd hn).weak fun σ H Q h => ?_
  obtain ⟨P, st, hs, h⟩ := h
  simp only [evE] at h
  refine A_bind hs h fun ds vs P1 H1 e1 g1 r1 h1 => ?_
  intro a dx na ndx ne
  have hBH : Same (upd H1 dx (.own a)) (upd (upd H1 dx (.own a)) a (.ins C dx [])) := same_new (by rw [upd_ne (Ne.symm ne)]; exact na)
  have hH1B : Same H1 (upd H1 dx (.own a)) := same_new ndx
  have hBa : (upd H1 dx (.own a)) a = none := by rw [upd_ne (Ne.symm ne)]; exact na
  have hP1 : P1 a = none := g1.ph.free na
  have toGr : ∀ {P' H' : Hp}, GrM (upd H1 dx (.own a)) P1 P' H' → Gr P1 H1 P' H' := fun g => ⟨g.pp, hH1B.trans g.bh, g.ph, fun b o q => by
    rcases g.nw b o q with z | z
    · exact .inl z
    · exact .inr (z.back hH1B)⟩
  refine ⟨?_, upd H1 dx (.own a), P1, .obj x [] [] :: ds, (g1.ph.trans hH1B).trans hBH, hBH, ⟨?_, ?_, ?_⟩, ?_⟩
  · show vs.length + 1 = n + 1
    rw [r1.length, evEs_len e1, hl]
  · show vs.length + 1 = ds.length + 1
    rw [r1.length]
  · intro i d v ei ev
    cases i with
    | zero =>
      rw [if_pos (by simp)]
      simp only [List.getElem?_cons_zero, Option.some.injEq] at ei ev
      subst ei ev
      exact ⟨a, rfl, hBa, hP1, _, upd_same, hm, rfl, Reps.nil⟩
    | succ i =>
      rw [if_neg (by simp)]
      simp only [List.getElem?_cons_succ] at ei ev
      obtain ⟨v', e3, r'⟩ := r1.get ei
      rw [ev] at e3
      cases e3
      exact r'
  · intro i j b hij hi hj
    simp only [List.mem_singleton] at hi hj
    omega
  · rw [hF] at h1
    cases q : FM (.obj x [] [] :: ds) with
    | ok y =>
      obtain ⟨d, nd⟩ := y
      rw [q] at h1
      intro v P' H' g rv hown
      cases d with
      | non =>
        cases nd with
        | nil => exact h1.elim
        | cons o r =>
          cases o with
          | obj oc on ov =>
            simp only [Rep] at rv
            refine ⟨rv, ?_⟩
            have ho := hown 0 a (.obj oc on ov) (by simp) rfl rfl
            obtain ⟨oo, k1, k2, k3, k4⟩ := ho.freeze g.ph rfl
            have g' := toGr g
            refine h1 (upd P' a oo) H' ⟨g'.pp.trans k2, g'.hh, k3, fun b y qb => ?_⟩ _ (ResE.of_plain rfl rfl k4)
            by_cases hb' : b = a
            · exact .inr (.inl (by rw [hb']; exact na))
            · rw [upd_ne hb'] at qb; exact g'.nw b y qb
          | _ => exact h1.elim
      | _ => exact h1.elim
    | err c p =>
      rw [q] at h1
      exact fun P' H' cls dx g y => h1 P' H' cls dx (toGr g) y
    | bad => rw [q] at h1; exact h1.elim
/-- e.f, e the exception at hand, of the class cc -/
structure XatOk (G : Glob) (cc f : Str) : Prop where
  ex : ∃ C, G.mg cc = some (.ref C) ∧ XfC G.K C ∧ PySem.W.findIn G.K (.ref C) f = some none
theorem sE_xat (c : Cxt F W X N sc tn false lv) {i : Nat} {cc f x : Str} {p pos : Pos} (hi : N[i]? = some x) (hv : visB sc x = true) (hd : (x == ("__debug__" : Str)) = false) (hc : (x == ("__classdict__" : Str)) = false)
    (hx : XatOk (gl X) cc f) : PE X (.Attribute (.Name x p) f pos) (tE (gl X) F W (.xat i cc f)) := by
  refine ⟨fun pins s σ H Q I h => ?_⟩
  obtain ⟨P, st, hs, h⟩ := h
  simp only [evE] at h
  split at h
  · rename_i c' g d hst
    split at h
    · rename_i hgf
      obtain ⟨hgf, hcc⟩ := hgf
      subst hgf hcc
      obtain ⟨o, h1, a, cls, dd, v, hxa, rfl, hmg, hP, hr⟩ := hs.at_ hst
      obtain ⟨X0, oe, pn, hX, hz, hdat⟩ := c.xs a cls (some dd) hxa
      obtain ⟨C, hC, hT, hno⟩ := hx.ex
      have hcls : cls = .ref C := by rw [hC] at hmg; cases hmg; rfl
      have he : PE X (.Name x p) (tVar i) := pe_var (i := i) (by rw [c.hN]; exact hi) (by rw [c.hs]; exact vis_of hv) hd hc
      subst hX
      refine (pe_xf (X := X0) (pos := pos) hT hno hz hdat he (base_ok rfl)).run pins s σ H Q I ?_
      refine ⟨.ref a, h1, rfl, hcls, dd, [(g, v)], v, rfl, hs.ex _ _ hP, ?_, FinG.at_ hs.ex h v (ResE.of_plain rfl (by cases d <;> rfl) hr)⟩
      rw [List.lookup_cons]
      have : (g == g) = true := beq_self_eq_true g
      rw [this]
    · exact h.elim
  · exact h.elim
end
end M
set_option Elab.async false
set_option linter.all false
set_option maxRecDepth 100000
set_option maxHeartbeats 2000000
/-! M, part H: targets, what is walked, comprehensions. -/
namespace M
open PySem L2 PySem.Spec PyProof.Rows

/-! ### slots -/
section
variable {G : Glob} {F : Fx} {P H : Hp} {σ : L2.St} {st st' : ES}
theorem setv_inv {i : Nat} {s : Sl} (e : setv st i s = .ok st') : st' = st.set i s ∧ i < st.length ∧ (∀ d, st[i]? ≠ some (.par d)) ∧ ∀ c f d, st[i]? ≠ some (.exc c f d) := by
  unfold setv at e
  split at e
  · cases e
  · cases e
  · cases e
  · rename_i hp hx hn
    cases e
    refine ⟨rfl, ?_, fun d h => hp d h, fun c f d h => hx c f d h⟩
    cases h : st[i]? with
    | none => exact absurd h hn
    | some s => exact (List.getElem?_eq_some_iff.mp h).1
/-- a slot gets a new content -/
theorem StOk.set (hs : StOk G F P H σ st) {i : Nat} {s : Sl} {v : Option V} (hi : i < st.length) (h : SlOk G F P H i s v)
    (hd : isOwn s = true → ∀ a, v = some (V.ref a) → ∀ j t, j ≠ i → st[j]? = some t → isOwn t = true → σ[j]? ≠ some (some (V.ref a))) : StOk G F P H (σ.set i v) (st.set i s) := by
  refine ⟨by rw [List.length_set, List.length_set]; exact hs.len, hs.ex, hs.exB, fun j t o e1 e2 => ?_, fun j k t u a hjk e1 e2 o1 o2 q1 q2 => ?_⟩
  · by_cases hj : i = j
    · subst hj
      rw [List.getElem?_set_self hi] at e1
      rw [List.getElem?_set_self (by rw [hs.len]; exact hi)] at e2
      cases e1; cases e2
      exact h
    · rw [List.getElem?_set_ne hj] at e1 e2
      exact hs.slot j t o e1 e2
  · by_cases hj : i = j
    · subst hj
      have hk : i ≠ k := hjk
      rw [List.getElem?_set_self hi] at e1
      rw [List.getElem?_set_self (by rw [hs.len]; exact hi)] at q1
      rw [List.getElem?_set_ne hk] at e2 q2
      cases e1
      exact hd o1 a (Option.some.inj q1) k u (Ne.symm hk) e2 o2 q2
    · rw [List.getElem?_set_ne hj] at e1 q1
      by_cases hk : i = k
      · subst hk
        rw [List.getElem?_set_self hi] at e2
        rw [List.getElem?_set_self (by rw [hs.len]; exact hi)] at q2
        cases e2
        exact hd o2 a (Option.some.inj q2) j t (Ne.symm hj) e1 o1 q1
      · rw [List.getElem?_set_ne hk] at e2 q2
        exact hs.dist j k t u a hjk e1 e2 o1 o2 q1 q2
theorem StOk.setVal (hs : StOk G F P H σ st) {i : Nat} {d : D} {v : V} (e : setv st i (.val d) = .ok st') (r : Rep G P d v) : StOk G F P H (σ.set i (some v)) st' := by
  obtain ⟨rfl, hi, _, _⟩ := setv_inv e
  exact hs.set hi ⟨v, rfl, r⟩ (fun h => by cases h)
theorem StOk.wipe (hs : StOk G F P H σ st) : ∀ vs : List Nat, StOk G F P H (wipe σ vs) (wipeS st vs)
  | [] => hs
  | v :: vs => by
    have ih := hs.wipe vs
    show StOk G F P H ((L2.wipe σ vs).set v none) ((wipeS st vs).set v .un)
    by_cases hv : v < (wipeS st vs).length
    · exact ih.set hv trivial (fun h => by cases h)
    · rw [List.set_eq_of_length_le (by rw [ih.len]; omega), List.set_eq_of_length_le (by omega)]
      exact ih
theorem set_set_none {σ : L2.St} {i : Nat} {v : Option V} : (σ.set i v).set i none = σ.set i none := List.set_set ..
theorem wipe_set {i : Nat} {v : Option V} : ∀ {vs : List Nat} {σ : L2.St}, i ∈ vs → wipe (σ.set i v) vs = wipe σ vs
  | w :: vs, σ, h => by
    show (L2.wipe (σ.set i v) vs).set w none = (L2.wipe σ vs).set w none
    by_cases hi : i ∈ vs
    · rw [wipe_set hi]
    · have hw : i = w := by
        rcases List.mem_cons.mp h with e | e
        · exact e
        · exact absurd e hi
      subst hw
      have hset : ∀ (us : List Nat), i ∉ us → L2.wipe (σ.set i v) us = (L2.wipe σ us).set i v := by
        intro us
        induction us with
        | nil => intro _; rfl
        | cons u us ih =>
          intro hu
          simp only [List.mem_cons, not_or] at hu
          show (L2.wipe (σ.set i v) us).set u none = ((L2.wipe σ us).set u none).set i v
          rw [ih hu.2, List.set_comm _ _ hu.1]
      rw [hset vs hi, set_set_none]
theorem wipe_wipe_mem {vs : List Nat} {σ : L2.St} : wipe (wipe σ vs) vs = wipe σ vs := by
  have : ∀ (us : List Nat), (∀ u ∈ us, u ∈ vs) → L2.wipe (L2.wipe σ us) vs = L2.wipe σ vs := by
    intro us
    induction us with
    | nil => intro _; rfl
    | cons u us ih =>
      intro h
      show L2.wipe ((L2.wipe σ us).set u none) vs = _
      rw [wipe_set (h u List.mem_cons_self)]
      exact ih fun x hx => h x (List.mem_cons_of_mem _ hx)
  exact this vs fun _ h => h
end

/-! ### targets -/
def Pat.slots : Pat → List Nat
  | .n i => [i]
  | .t is => is
def gPs : List Nat → TGs
  | [] => gNil
  | i :: r => gCons (gName i) (gPs r)
def gP (K : PySem.W.Frag) : Pat → TG
  | .n i => gName i
  | .t is => fun v σ H Q => gTup K is.length (gPs is) v σ H Q ∨ gLst K is.length (gPs is) v σ H Q
theorem PG_or {X : Cx} {e : Expr} {t t' : TG} (h : PG X e t) (h' : PG X e t') : PG X e (fun v σ H Q => t v σ H Q ∨ t' v σ H Q) := ⟨fun pins s σ H v u Q I r q => by
  rcases q with q | q
  · exact h.run pins s σ H v u Q I r q
  · exact h'.run pins s σ H v u Q I r q⟩
section
variable {G : Glob} {F : Fx} {P H : Hp}
theorem setAll_ok : ∀ {is : List Nat} {ds : List D} {vs : List V} {σ : L2.St} {st st' : ES} {Q : L2.St → Hp → Prop}, StOk G F P H σ st → setAll is ds st = .ok st' → Reps G P ds vs →
    (∀ σ', StOk G F P H σ' st' → (∀ ws : List Nat, (∀ i ∈ is, i ∈ ws) → wipe σ' ws = wipe σ ws) → Q σ' H) → gPs is vs σ H Q
  | [], [], vs, σ, st, st', Q, hs, e, r, q => by
    cases e
    exact ⟨r.nil_inv, q σ hs fun _ _ => rfl⟩
  | [], _ :: _, _, _, _, _, _, _, e, _, _ => by cases e
  | _ :: _, [], _, _, _, _, _, _, e, _, _ => by cases e
  | i :: is, d :: ds, vs, σ, st, st', Q, hs, e, r, q => by
    obtain ⟨v, us, rfl, r1, r2⟩ := r.cons_inv
    unfold setAll at e
    cases e1 : setv st i (.val d) with
    | ok st1 =>
      rw [e1] at e
      refine ⟨v, us, rfl, ?_⟩
      exact setAll_ok (hs.setVal e1 r1) e r2 fun σ' h' w => q σ' h' fun ws hw => by
        rw [w ws fun j hj => hw j (List.mem_cons_of_mem _ hj)]
        exact wipe_set (hw i List.mem_cons_self)
    | err _ _ => rw [e1] at e; cases e
    | bad => rw [e1] at e; cases e
theorem setAll_len : ∀ {is : List Nat} {ds : List D} {st st' : ES}, setAll is ds st = .ok st' → ds.length = is.length
  | [], [], _, _, _ => rfl
  | [], _ :: _, _, _, e => by cases e
  | _ :: _, [], _, _, e => by cases e
  | i :: is, d :: ds, st, st', e => by
    unfold setAll at e
    cases e1 : setv st i (.val d) with
    | ok st1 => rw [e1] at e; rw [List.length_cons, List.length_cons, setAll_len (show setAll is ds st1 = .ok st' from e)]
    | err _ _ => rw [e1] at e; cases e
    | bad => rw [e1] at e; cases e
theorem bindP_ok {p : Pat} {d : D} {v : V} {σ : L2.St} {st st' : ES} {Q : L2.St → Hp → Prop} (hs : StOk G F P H σ st) (e : bindP p d st = .ok st') (r : Rep G P d v)
    (q : ∀ σ', StOk G F P H σ' st' → (∀ ws : List Nat, (∀ i ∈ p.slots, i ∈ ws) → wipe σ' ws = wipe σ ws) → Q σ' H) : gP G.K p v σ H Q := by
  unfold bindP at e
  split at e
  · exact q _ (hs.setVal e r) fun ws hw => wipe_set (hw _ (by simp [Pat.slots]))
  · simp only [Rep] at r
    obtain ⟨a, vs, rfl, h1, h2⟩ := r
    exact .inl ⟨a, vs, rfl, Same.tup hs.ex (.inl (.inl h1)), by rw [h2.length, setAll_len e], setAll_ok hs e h2 q⟩
  · simp only [Rep] at r
    obtain ⟨a, vs, rfl, h1, h2⟩ := r
    exact .inr ⟨a, vs, rfl, .of (hs.ex _ _ h1), by rw [h2.length, setAll_len e], setAll_ok hs e h2 q⟩
  · cases e
theorem bindP_noerr {p : Pat} {d : D} {st : ES} {c : Str} {q : Option (Str × D)} : bindP p d st ≠ .err c q := by
  have h1 : ∀ (st : ES) (i : Nat) (s : Sl) c q, setv st i s ≠ .err c q := fun st i s c q h => by unfold setv at h; split at h <;> cases h
  have h2 : ∀ (is : List Nat) (ds : List D) (st : ES) c q, setAll is ds st ≠ .err c q := by
    intro is
    induction is with
    | nil => intro ds st c q h; cases ds <;> cases h
    | cons i is ih =>
      intro ds st c q h
      cases ds with
      | nil => cases h
      | cons d ds =>
        unfold setAll at h
        cases e : setv st i (.val d) with
        | ok st1 => rw [e] at h; exact ih _ _ _ _ h
        | err _ _ => exact h1 _ _ _ _ _ e
        | bad => rw [e] at h; cases h
  intro h
  unfold bindP at h
  split at h
  · exact h1 _ _ _ _ _ h
  · exact h2 _ _ _ _ _ h
  · exact h2 _ _ _ _ _ h
  · cases h
end

/-! ### syntactic side conditions of targets -/
def stoB (tn : List (Str × NameKind)) (x : Str) : Bool := match tn.lookup x with
  | some .local => true
  | some .cell => true
  | _ => false
def okPs (N : List Str) (tn : List (Str × NameKind)) : List Nat → List Expr → Bool
  | [], [] => true
  | i :: is, .Name x _ :: es => decide (N[i]? = some x) && stoB tn x && okPs N tn is es
  | _, _ => false
def okP (N : List Str) (tn : List (Str × NameKind)) : Pat → Expr → Bool
  | .n i, .Name x _ => decide (N[i]? = some x) && stoB tn x
  | .t is, .Tuple es _ _ => okPs N tn is es
  | _, _ => false
section
variable {X : Cx} {F : Fx} {W : WX} {N : List Str} {sc : Scope} {tn : List (Str × NameKind)} {cm : Bool} {lv : Nat}
theorem store_of (c : Cxt F W X N sc tn cm lv) {x : Str} (h : stoB tn x = true) : Loc X.env.scope x ∧ (X.fn x = true ∨ X.env.scope.names.lookup x = some .local) := by
  unfold stoB at h
  rw [c.hs]
  split at h
  · rename_i e
    exact ⟨.inl (c.stl x e), .inr (c.stl x e)⟩
  · rename_i e
    exact ⟨.inr (c.stc x e).1, .inl (c.stc x e).2⟩
  · cases h
theorem pg_of (c : Cxt F W X N sc tn cm lv) {i : Nat} {x : Str} {p : Pos} (hi : N[i]? = some x) (h : stoB tn x = true) : PG X (.Name x p) (gName i) :=
  pg_name (by rw [c.hN]; exact c.nd) (by rw [c.hN]; exact hi) (store_of c h).1 (store_of c h).2
theorem pgs_of (c : Cxt F W X N sc tn cm lv) : ∀ {is : List Nat} {es : List Expr}, okPs N tn is es = true → PGs X es (gPs is) ∧ (assignEach es X.env).length = is.length ∧ (assignEach es X.env).findIdx? (·.1) = none
  | [], [], _ => ⟨pgs_nil, rfl, rfl⟩
  | [], _ :: _, h => by cases h
  | i :: is, [], h => by cases h
  | i :: is, e :: es, h => by
    cases e with
    | Name x p =>
      simp only [okPs, Bool.and_eq_true, decide_eq_true_eq] at h
      obtain ⟨h1, h2, h3⟩ := pgs_of c h.2
      refine ⟨pgs_cons (pg_of c h.1.1 h.1.2) h1 rfl, ?_, ?_⟩
      · show (assignEach es X.env).length + 1 = is.length + 1
        rw [h2]
      · show ((false, assign (.Name x p) X.env) :: assignEach es X.env).findIdx? (·.1) = none
        rw [List.findIdx?_cons]
        show (if false = true then some 0 else ((assignEach es X.env).findIdx? (·.1)).map (· + 1)) = none
        rw [h3]; rfl
    | _ => cases h
theorem sP (c : Cxt F W X N sc tn true lv) : ∀ {p : Pat} {e : Expr}, okP N tn p e = true → PG X e (gP X.K p)
  | .n i, .Name x p, h => by
    simp only [okP, Bool.and_eq_true, decide_eq_true_eq] at h
    exact pg_of c h.1 h.2
  | .t is, .Tuple es k p, h => by
    obtain ⟨h1, h2, h3⟩ := pgs_of c (show okPs N tn is es = true from h)
    exact PG_or (pg_tup (c.calm rfl) h1 h2 h3) (pg_lst (c.calm rfl) h1 h2 h3)

/-! ### what is walked -/
theorem serves_list {G : Glob} {P : Hp} {a : Addr} {l : List D} {vs : List V} (h : ∀ H', Same P H' → SqL G.K H' a vs) (r : Reps G P l vs) : Serves G (Itl G.K a) P l := by
  intro i H' s
  refine ⟨fun hl => ⟨vs, h H' s, by rw [r.length]; exact hl⟩, fun d e => ?_⟩
  obtain ⟨v, e1, r1⟩ := r.get e
  refine ⟨⟨vs, v, h H' s, e1⟩, fun x H2 q P1 s1 s2 => ?_⟩
  obtain ⟨rfl, q2⟩ := q
  have e2 := q2 vs (h _ s)
  rw [e1] at e2
  cases e2
  exact ⟨P1, Gr.refl s2, r1.mono s1⟩
theorem serves_tup {G : Glob} {P : Hp} {a : Addr} {l : List D} {vs : List V} (h : SqT G.K P a vs) (r : Reps G P l vs) : Serves G (Itt G.K a) P l := by
  intro i H' s
  refine ⟨fun hl => ⟨vs, Same.tup s h, by rw [r.length]; exact hl⟩, fun d e => ?_⟩
  obtain ⟨v, e1, r1⟩ := r.get e
  refine ⟨⟨vs, v, Same.tup s h, e1⟩, fun x H2 q P1 s1 s2 => ?_⟩
  obtain ⟨rfl, q2⟩ := q
  have e2 := q2 vs (Same.tup s h)
  rw [e1] at e2
  cases e2
  exact ⟨P1, Gr.refl s2, r1.mono s1⟩
theorem enumFrom_len : ∀ (l : List D) (k : Nat), (enumFrom k l).length = l.length
  | [], _ => rfl
  | _ :: l, k => by simp only [enumFrom, List.length_cons, enumFrom_len l]
theorem enumFrom_get : ∀ {l : List D} {k i : Nat} {d : D}, (enumFrom k l)[i]? = some d → ∃ x, l[i]? = some x ∧ d = .tup [.int ((k + i : Nat) : Int), x]
  | [], _, _, _, h => by simp [enumFrom] at h
  | x :: l, k, 0, d, h => by
    simp only [enumFrom, List.getElem?_cons_zero, Option.some.injEq] at h
    exact ⟨x, rfl, by rw [← h]; rfl⟩
  | x :: l, k, i + 1, d, h => by
    simp only [enumFrom, List.getElem?_cons_succ] at h
    obtain ⟨y, e1, e2⟩ := enumFrom_get h
    refine ⟨y, by rw [List.getElem?_cons_succ]; exact e1, ?_⟩
    rw [e2, show k + 1 + i = k + (i + 1) by omega]
theorem pair_laid {G : Glob} {P1 H' : Hp} {x y : D} {u v : V} {T : Addr} (s : Same P1 H') (h : H' T = none) (r1 : Rep G P1 x u) (r2 : Rep G P1 y v) : ∃ P2, Gr P1 H' P2 (upd H' T (.tup [u, v])) ∧ Rep G P2 (.tup [x, y]) (.ref T) :=
  ⟨_, Gr.laid s h, Rep.tup_laid (Reps.cons r1 (Reps.cons r2 Reps.nil)) (s.free h)⟩
theorem serves_enum {G : Glob} {P : Hp} {a : Addr} {l : List D} {vs : List V} (h : ∀ H', Same P H' → SqL G.K H' a vs) (r : Reps G P l vs) : Serves G (Ite G.K a) P (enumFrom 0 l) := by
  intro i H' s
  refine ⟨fun hl => ⟨vs, h H' s, by rw [r.length]; rw [enumFrom_len] at hl; exact hl⟩, fun d e => ?_⟩
  obtain ⟨x, e0, rfl⟩ := enumFrom_get e
  obtain ⟨v, e1, r1⟩ := r.get e0
  refine ⟨⟨vs, v, h H' s, e1⟩, fun x H2 q P1 s1 s2 => ?_⟩
  obtain ⟨T, w, rfl, hT, rfl, q2⟩ := q
  have e2 := q2 vs (h _ s)
  rw [e1] at e2
  cases e2
  rw [Nat.zero_add]
  exact pair_laid s2 hT rep_int (r1.mono s1)
theorem zipD_len : ∀ (l m : List D), (zipD l m).length = min l.length m.length
  | [], _ => by simp [zipD]
  | _ :: _, [] => by simp [zipD]
  | _ :: l, _ :: m => by simp only [zipD, List.length_cons, zipD_len l m]; omega
theorem zipD_get : ∀ {l m : List D} {i : Nat} {d : D}, (zipD l m)[i]? = some d → ∃ x y, l[i]? = some x ∧ m[i]? = some y ∧ d = .tup [x, y]
  | [], _, _, _, h => by simp [zipD] at h
  | _ :: _, [], _, _, h => by simp [zipD] at h
  | x :: l, y :: m, 0, d, h => by
    simp only [zipD, List.getElem?_cons_zero, Option.some.injEq] at h
    exact ⟨x, y, rfl, rfl, h.symm⟩
  | x :: l, y :: m, i + 1, d, h => by
    simp only [zipD, List.getElem?_cons_succ] at h
    simp only [List.getElem?_cons_succ]
    exact zipD_get (l := l) (m := m) (i := i) h
theorem serves_zip {G : Glob} {P : Hp} {a b : Addr} {l m : List D} {vs us : List V} (h : ∀ H', Same P H' → SqL G.K H' a vs) (r : Reps G P l vs) (h' : ∀ H', Same P H' → SqL G.K H' b us) (r' : Reps G P m us) : Serves G (Itz G.K a b) P (zipD l m) := by
  intro i H' s
  refine ⟨fun hl => ⟨vs, us, h H' s, h' H' s, ?_⟩, fun d e => ?_⟩
  · rw [zipD_len] at hl
    rw [r.length, r'.length]
    omega
  obtain ⟨x, y, e0, f0, rfl⟩ := zipD_get e
  obtain ⟨v, e1, r1⟩ := r.get e0
  obtain ⟨u, f1, r2⟩ := r'.get f0
  refine ⟨⟨vs, us, v, u, h H' s, h' H' s, e1, f1⟩, fun x H2 q P1 s1 s2 => ?_⟩
  obtain ⟨T, w, z, rfl, hT, rfl, q2, q3⟩ := q
  have e2 := q2 vs (h _ s)
  rw [e1] at e2
  cases e2
  have f2 := q3 us (h' _ s)
  rw [f1] at f2
  cases f2
  exact pair_laid s2 hT (r1.mono s1) (r2.mono s1)
theorem serves_range {G : Glob} {P : Hp} {lo : Int} {n : Nat} : Serves G (Itr lo n) P (intsTo lo n) := by
  intro i H' s
  have hl : (intsTo lo n).length = n := by unfold intsTo; rw [List.length_map, List.length_range]
  refine ⟨fun h => by rw [hl] at h; exact h, fun d e => ?_⟩
  unfold intsTo at e
  rw [List.getElem?_map, Option.map_eq_some_iff] at e
  obtain ⟨k, e1, rfl⟩ := e
  have hk : k = i ∧ i < n := by
    have h1 := List.getElem?_eq_some_iff.mp e1
    obtain ⟨h2, h3⟩ := h1
    rw [List.getElem_range] at h3
    rw [List.length_range] at h2
    exact ⟨h3.symm, h2⟩
  obtain ⟨rfl, hlt⟩ := hk
  refine ⟨hlt, fun x H2 q P1 s1 s2 => ?_⟩
  obtain ⟨rfl, rfl⟩ := q
  exact ⟨P1, Gr.refl s2, rep_int⟩
theorem seq_noerr {d : D} {c : Str} {p : Option (Str × D)} : seqD d ≠ .err c p := by
  intro e; unfold seqD at e; split at e <;> cases e
def isTupD : D → Bool
  | .tup _ => true
  | _ => false
theorem sI_seq {a : IE} {tg x : Expr} (hb : isB a = false) (ha : PE X x (tE (gl X) F W a)) : PI X tg x (tI (gl X) F W (.seq a)) :=
  (PI.or (pi_list ha) (pi_tup ha)).weak fun σ H Q h => by
    obtain ⟨P, st, hs, h⟩ := h
    simp only [evI] at h
    by_cases hk : ∃ l, evE a st = .ok (.tup l)
    · refine .inr (E_bindS hb hs h fun d v P1 H1 e1 g1 r1 h1 => ?_)
      obtain ⟨l, e2⟩ := hk
      rw [e1] at e2; cases e2
      have h2 : FinG (gl X) W σ P1 H1 (.ok l) (fun items P' H' => ∀ J, Serves (gl X) J P' items → Q J H') := h1
      simp only [Rep] at r1
      obtain ⟨b, vs, rfl, q1, q2⟩ := r1
      exact ⟨b, rfl, ⟨vs, Same.tup g1.ph (.inl (.inl q1))⟩, FinG.at_ g1.ph h2 _ (serves_tup (.inl (.inl q1)) q2)⟩
    · refine .inl (E_bindS hb hs h fun d v P1 H1 e1 g1 r1 h1 => ?_)
      cases d with
      | tup l => exact absurd ⟨l, e1⟩ hk
      | lst l =>
        simp only [Rep] at r1
        obtain ⟨b, vs, rfl, q1, q2⟩ := r1
        exact ⟨b, rfl, ⟨vs, .of (g1.ph _ _ q1)⟩, FinG.at_ (a := l) g1.ph h1 _ (serves_list (fun H' s => .of (s _ _ q1)) q2)⟩
      | scr l =>
        simp only [Rep] at r1
        obtain ⟨b, vs, rfl, q1, q2⟩ := r1
        exact ⟨b, rfl, ⟨vs, Same.seq g1.ph q1⟩, FinG.at_ (a := l) g1.ph h1 _ (serves_list (fun H' s => Same.seq s q1) q2)⟩
      | _ => exact h1.elim
end
end M
set_option Elab.async false
set_option linter.all false
set_option maxRecDepth 100000
set_option maxHeartbeats 2000000
/-! M: enumerate over a tuple. -/
namespace M
open PySem L2 PySem.Spec PyProof.Rows
/-- a fresh enumerate object over the iterator at it -/
abbrev enumObj (it : Addr) : Obj := { cls := .type "enumerate", data := .fields #[.none, .bool false, .ref it, rawInt 0, .none, .none] }
abbrev tupIter (t : Addr) : Obj := { cls := .type "tuple_iterator", data := .fields #[.ref t, .int 0 0] }
theorem newEnum {v : Value} {o : Obj} {B : Heap → Prop} (b : Begins v o B) :
    Meets (Builtin.«enumerate.__new__» ⟨[.type "enumerate", v], []⟩) fun _ R s => B s.heap ∧ R (.ok (.ret (.ref (s.heap.push o).objs.size))) { s with heap := (s.heap.push o).push (enumObj s.heap.objs.size) } :=
  .of_wp fun prog w A R s hs => by
    obtain ⟨hp, gs, dr, tk, os⟩ := s
    obtain ⟨k1, k2⟩ := hs
    have sub := sub_enumerate
    have step : ∀ {A' : Around} {E Q : Value → Shared → Prop}, Q (.ref hp.objs.size) ⟨hp.push o, gs, dr, tk, os⟩ → wpAny (model prog w) A' (pyIter v) Q E ⟨hp, gs, dr, tk, os⟩ := fun q => b.iter _ _ _ _ ⟨hp, gs, dr, tk, os⟩ _ k1 q
    wp_walk using step
    refine wpAny_stack_any fun _ => wpAny_pure ?_
    split
    · rename_i cl _ _ _ _ _
      cases (cl == Value.type "enumerate") <;> (wp_walk using step; exact ⟨_, rfl, k2⟩)
    · wp_walk using step
      exact ⟨_, rfl, k2⟩
/-- where the walk over the tuple at t stands: the enumerate object at e, its iterator at i, k items given out -/
structure EnAt (t e i : Addr) (k : Nat) (h : Heap) : Prop where
  en : ∃ old, IsEnum h e i (k : Int) old
  it : h.IsTupleIter i t k
  ne : e ≠ i
theorem callEnum {prog : Program} {w : World} {A : Around} {E Q : Value → Shared → Prop} {s : Shared} {t : Addr} {items : Array Value} (ht : s.heap.IsTuple t items)
    (hq : ∀ h', EnAt t (s.heap.objs.size + 1) s.heap.objs.size 0 h' → (∀ b o, s.heap.get? b = some o → h'.get? b = some o) → Q (.ref (s.heap.objs.size + 1)) { s with heap := h' }) :
    wpAny (model prog w) A (call (.type "enumerate") [.ref t]) Q E s := by
  have one : (s.heap.push (tupIter t)).objs.size = s.heap.objs.size + 1 := Heap.size_push ..
  have atE : ((s.heap.push (tupIter t)).push (enumObj s.heap.objs.size)).get? (s.heap.objs.size + 1) = some (enumObj s.heap.objs.size) := by
    rw [← one]
    exact Heap.get?_push_size _ rfl
  have atI : ((s.heap.push (tupIter t)).push (enumObj s.heap.objs.size)).get? s.heap.objs.size = some (tupIter t) := Heap.get?_push_of_some _ (Heap.get?_push_size _ rfl)
  apply callType_new F.called_enumerate (by decide) (F.typeCall_enumerate_1 _) (F.newCall_enumerate_1 _) (fun ob => F.args_object_init_2 ob _) F.entry_enumerate_new (newEnum (begins_tuple t items))
  refine ⟨ht, ?_⟩
  show _ ∧ _
  rw [one]
  exact ⟨⟨_, atE, rfl⟩, hq _ ⟨⟨_, atE⟩, ⟨_, atI, rfl, rfl⟩, Nat.succ_ne_self _⟩ fun b o q => Heap.get?_push_of_some _ (Heap.get?_push_of_some _ q)⟩
theorem tup_of {h : Heap} {a : Addr} {its : Array Value} (p : IsTup h a its) : h.IsTuple a its := let ⟨o, ho, hc, n, hd⟩ := p; ⟨o, ho, hc, n, hd⟩
/-- a tuple is neither its iterator nor an enumerate object -/
theorem EnAt.apart {t e i : Addr} {k : Nat} {h : Heap} {its : Array Value} (st : EnAt t e i k h) (p : h.IsTuple t its) : t ≠ i ∧ e ≠ t := by
  obtain ⟨o1, h1, h2, _⟩ := p
  constructor
  · intro z
    obtain ⟨o2, h3, h4, _⟩ := st.it
    rw [← z, h1] at h3
    cases h3
    exact absurd (Value.type.inj (h2.symm.trans h4)) (by decide)
  · intro z
    obtain ⟨old, he⟩ := st.en
    have he' : h.get? e = _ := he
    rw [z, h1] at he'
    cases he'
    exact absurd (Value.type.inj h2) (by decide)
/-- the tuple at a, each item in a pair of its own -/
def IteT (K : PySem.W.Frag) (a : Addr) : It :=
  ⟨fun i H => ∃ (xs : List V) (x : V), SqT K H a xs ∧ xs[i]? = some x, fun i H v H' => ∃ T x, v = .ref T ∧ H T = none ∧ H' = upd H T (.tup [.int (i : Nat), x]) ∧ ∀ xs, SqT K H a xs → xs[i]? = some x, fun i H => ∃ xs : List V, SqT K H a xs ∧ xs.length ≤ i⟩
section
variable {P : Program} {w : World} {K : PySem.W.Frag} {a e it : Addr}
theorem two {b : Addr} (hb : b ∈ [e, it]) : b = e ∨ b = it := by simpa using hb
theorem enTurn {elts : List Expr} {kk : Nat} {tpos : Pos} : Turn P w K (.Tuple elts kk tpos) (IteT K a) [e, it] e (EnAt a e it) where
  mem := List.mem_cons_self
  obj := fun i h st b hb => by
    rcases two hb with z | z
    · obtain ⟨old, q⟩ := st.en
      rw [z]
      exact ⟨_, q, fun v z => nomatch z⟩
    · obtain ⟨o, q1, _, q2⟩ := st.it
      rw [z]
      exact ⟨o, q1, fun v z => by rw [q2] at z; cases z⟩
  keep := fun i h h' st k => by
    obtain ⟨old, q⟩ := st.en
    exact ⟨⟨old, k e List.mem_cons_self _ q⟩, st.it.at fun o z => k it (by simp) o z, st.ne⟩
  self := fun A i s Q E st hq => by
    obtain ⟨old, q⟩ := st.en
    exact wpAny_pyIter_enum q hq
  done := fun X hP hw hK hc i pins s σ H E I hf st hg => by
    subst hP hw hK
    obtain ⟨xs, hq, hx⟩ := hg
    obtain ⟨its, rv, p, _⟩ := I.tuple hq
    have hl := rv.length
    obtain ⟨old, he⟩ := st.en
    obtain ⟨n1, n2⟩ := st.apart (tup_of p)
    obtain ⟨f0, f1, f2, f3, f4, f5⟩ := hf it (by simp)
    have over : its.toArray[i]? = none := by
      rw [List.getElem?_toArray]
      exact List.getElem?_eq_none (by omega)
    have ty : s.TypeIs (.ref e) "enumerate" := ⟨_, he, rfl⟩
    unfold pyNext
    apply wpAny_bind
    apply wpAny_attempt
    refine wpAny_callSpecial?_slot (name := Str.ofString "__next__") ty F.slot_enumerate_next (wpAny_call_entry F.slot_enumerate_next ty F.entry_enumerate_next ?_ (F.args_enumerate_next_1 _))
    show wpAny _ _ (field (.ref e) 2 >>= _) _ _ s
    apply wpAny_bind
    apply wpAny_field he rfl (x := .ref it) rfl
    apply wpAny_bind
    refine wpAny_nextOf_tuple_end (I.ok.hd hc) st.it (tup_of p) over fun h1 x kept stop => ?_
    obtain ⟨o, ho, hco⟩ := stop
    apply wpAny_bind
    refine wpAny_isInstance (T := "StopIteration") (b := true) ⟨o, ho, hco⟩ isSubtype_stop ?_
    exact wpAny_pure ⟨rfl, I.turned (t' := s.toks) (fun b ob hb q => kept b ob hb q) f0 f1 f3 f4 f5⟩
  item := fun X hP hw hK hc i pins s σ H E I hf st hg => by
    subst hP hw hK
    obtain ⟨xs, x, hq, hx⟩ := hg
    obtain ⟨its, rv, p, _⟩ := I.tuple hq
    obtain ⟨old, he⟩ := st.en
    obtain ⟨n1, n2⟩ := st.apart (tup_of p)
    obtain ⟨u, hu, ru⟩ := rv.get hx
    have below : ∀ b ∈ [e, it], b < s.heap.objs.size := fun b hb => by
      rcases two hb with z | z
      · rw [z]; exact Heap.lt_size he
      · obtain ⟨_, q, _⟩ := st.it
        rw [z]; exact Heap.lt_size q
    refine wpAny_pyNext_enum_itemD (Draws.tuple (A := X.A.in1) (prog := X.prog) (w := X.w) (I.ok.hd hc) it a n1 its.toArray) he ⟨st.it, tup_of p⟩ (by rw [List.size_toArray]; exact (List.getElem?_eq_some_iff.mp hu).1) st.ne (by simp [st.ne, n2]) fun y h1 tk hy ho hs' hT _ hk => ?_
    obtain rfl : y = u := by
      have z : its.toArray[i]? = some u := by simpa using hu
      exact Option.some.inj (hy.symm.trans z)
    refine ⟨_, rfl, wpAny_letOwnedTupleGo_enum (s := { s with heap := h1, toks := tk + 1 }) ho fun h2 he2 sb => ?_⟩
    have pair : h2.get? s.heap.objs.size = some { cls := .type "tuple", data := .seq #[.int i tk, y] } := (sb.2 _ (Nat.ne_of_gt (below e List.mem_cons_self))).trans hT
    have same : ∀ b ob, b ∉ [e, it] → s.heap.get? b = some ob → h2.get? b = some ob := fun b ob hb q => (sb.2 b fun z => hb (by rw [z]; exact List.mem_cons_self)).trans (hk b ob (fun z => hb (by rw [z]; exact List.mem_cons_self)) (fun z => hb (by rw [z]; simp)) q)
    have obj : ObjOk X.prog X.w (upd H s.heap.objs.size (.tup [.int (i : Nat), x])) h2 s.heap.objs.size (.tup [.int (i : Nat), x]) := ⟨by show 2 ≤ sizeLine; decide, [.int i tk, y], .cons ⟨_, rfl⟩ (.cons ru .nil), ⟨_, pair, rfl, _, rfl⟩⟩
    have J : Inv X pins σ (upd H s.heap.objs.size (.tup [.int (i : Nat), x])) { s with heap := h2, toks := tk + 1 } := I.turnedNew (ch := [e, it]) same hf (Nat.le_refl _) obj
    refine ⟨.ref s.heap.objs.size, _, J, rfl, ⟨_, x, rfl, I.hok.fresh (Nat.le_refl _), rfl, fun ys hy => by rw [I.tuple_inj hy hq]; exact hx⟩, ⟨⟨y, ?_⟩, hs'.1.at fun o q => (sb.2 it (Ne.symm st.ne)).trans q, st.ne⟩, fun b hb => ?_⟩
    · rw [show ((i + 1 : Nat) : Int) = (i : Int) + 1 by omega]
      exact he2
    · rw [upd_ne (Nat.ne_of_lt (below b hb))]
      exact (hf b hb).1
end
def iEnumT (K : PySem.W.Frag) (ta : TA) : TI := fun σ H R => ta σ H fun vs H1 => ∃ a xs, vs = [.ref a] ∧ SqT K H1 a xs ∧ R (IteT K a) H1
theorem pi_enumT {X : Cx} {e : Expr} {ta : TA} {p pos tpos : Pos} {elts : List Expr} {kk : Nat} (hg : Gl X "enumerate") (hm : X.mg "enumerate" = none) (ha : PA X [e] ta) (hs : starEach [e] X.env = [(false, eval e X.env)]) :
    PI X (.Tuple elts kk tpos) (.Call (.Name "enumerate" p) [e] [] pos) (iEnumT X.K ta) := ⟨fun pins s σ H R I h => by
  refine Call_ (ld_blt I hg hm boot_enumerate ?_)
  refine PyProof.Rows.callWith_type1 (thn (ha.run pos pins s σ H _ I h) fun us s1 ⟨vs, H1, J, rv, a, xs, ev, ht, q⟩ => ?_) hs rfl
  subst ev
  obtain ⟨u, rfl, ru⟩ := vals1 rv
  obtain rfl : u = Value.ref a := ru
  obtain ⟨its, _, it, _⟩ := J.tuple ht
  refine callEnum (tup_of it) fun h' st kept => ?_
  obtain ⟨old, he⟩ := st.en
  refine wpAny_pyIter_enum he ⟨s1.heap.objs.size + 1, [s1.heap.objs.size + 1, s1.heap.objs.size], _, _, H1, rfl, J.kept (t' := s1.toks) kept, enTurn, st, fun b hb => ?_, q⟩
  have above : s1.heap.objs.size ≤ b := by
    rcases two hb with z | z
    · rw [z]; exact Nat.le_succ _
    · rw [z]; exact Nat.le_refl _
  exact J.fpOk above (J.hok.fresh above)⟩
theorem serves_enumT {G : Glob} {P : Hp} {a : Addr} {l : List D} {vs : List V} (h : ∀ H', Same P H' → SqT G.K H' a vs) (r : Reps G P l vs) : Serves G (IteT G.K a) P (enumFrom 0 l) := by
  intro i H' s
  refine ⟨fun hl => ⟨vs, h H' s, by rw [r.length]; rw [enumFrom_len] at hl; exact hl⟩, fun d e => ?_⟩
  obtain ⟨x, e0, rfl⟩ := enumFrom_get e
  obtain ⟨v, e1, r1⟩ := r.get e0
  refine ⟨⟨vs, v, h H' s, e1⟩, fun x H2 q P1 s1 s2 => ?_⟩
  obtain ⟨T, w, rfl, hT, rfl, q2⟩ := q
  obtain rfl : w = v := Option.some.inj ((q2 vs (h _ s)).symm.trans e1)
  rw [Nat.zero_add]
  exact pair_laid s2 hT rep_int (r1.mono s1)
end M
set_option Elab.async false
set_option linter.all false
set_option maxRecDepth 100000
set_option maxHeartbeats 2000000
/-! M, part I: ranges, enumerate, zip; comprehensions. -/
namespace M
open PySem L2 PySem.Spec PyProof.Rows
theorem star1 {e : Expr} {env : Env} (h : notStar e = true) : starEach [e] env = [(false, eval e env)] := star_ok h
theorem star2 {e f : Expr} {env : Env} (h : notStar e = true) (h' : notStar f = true) : starEach [e, f] env = [(false, eval e env), (false, eval f env)] := by
  rw [star_ok h, star1 h']
section
variable {X : Cx} {F : Fx} {W : WX} {N : List Str} {sc : Scope} {tn : List (Str × NameKind)} {cm : Bool} {lv : Nat}
theorem sI_r1 (c : Cxt F W X N sc tn cm lv) {a : IE} {tg x : Expr} {p pos : Pos} (hg : glB sc "range" = true) (hn : notStar x = true) (ha : PE X x (tE (gl X) F W a)) : PI X tg (.Call (.Name "range" p) [x] [] pos) (tI (gl X) F W (.r1 a)) :=
  (pi_range1 (gl_of (by rw [c.hs]; exact hg)) (c.bi _ (by decide)) (pa_cons ha pa_nil (star_ok hn)) (star1 hn)).weak fun σ H Q h => by
    obtain ⟨P, st, hs, h⟩ := h
    simp only [evI] at h
    refine E_bind hs h fun d v P1 H1 e1 g1 r1 h1 => ?_
    cases d with
    | int n =>
      rw [r1.val.int]
      have h2 : FinG (gl X) W σ P1 H1 (if -(2 ^ 62) ≤ n ∧ n < 2 ^ 62 then .ok (intsTo 0 n.toNat) else .bad) (fun items P' H' => ∀ J, Serves (gl X) J P' items → Q J H') := h1
      split at h2
      · rename_i hb
        exact ⟨n, rfl, hb.1, hb.2, FinG.at_ g1.ph h2 _ serves_range⟩
      · exact h2.elim
    | _ => exact h1.elim
theorem sI_r2 (c : Cxt F W X N sc tn cm lv) {a b : IE} {tg x y : Expr} {p pos : Pos} (hg : glB sc "range" = true) (hn : notStar x = true) (hn2 : notStar y = true) (ha : PE X x (tE (gl X) F W a)) (hb : PE X y (tE (gl X) F W b)) : PI X tg (.Call (.Name "range" p) [x, y] [] pos) (tI (gl X) F W (.r2 a b)) :=
  (pi_range2 (gl_of (by rw [c.hs]; exact hg)) (c.bi _ (by decide)) (pa_cons ha (pa_cons hb pa_nil (star_ok hn2)) (star_ok hn)) (star2 hn hn2) (star1 hn2)).weak fun σ H Q h => by
    obtain ⟨P, st, hs, h⟩ := h
    simp only [evI] at h
    refine E_bind hs h fun d v P1 H1 e1 g1 r1 h1 => E_bind (hs.grow g1) h1 fun d2 u P2 H2 e2 g2 r2 h2 => ?_
    cases d with
    | int m =>
      cases d2 with
      | int n =>
        rw [r1.val.int, r2.val.int]
        have h3 : FinG (gl X) W σ P2 H2 (if -(2 ^ 62) ≤ m ∧ m < 2 ^ 62 ∧ -(2 ^ 62) ≤ n ∧ n < 2 ^ 62 then .ok (intsTo m (n - m).toNat) else .bad) (fun items P' H' => ∀ J, Serves (gl X) J P' items → Q J H') := h2
        split at h3
        · rename_i hb
          exact ⟨m, n, rfl, hb, FinG.at_ g2.ph h3 _ serves_range⟩
        · exact h3.elim
      | _ => exact h2.elim
    | _ => exact h2.elim
theorem sI_enum (c : Cxt F W X N sc tn cm lv) {a : IE} {elts : List Expr} {kk : Nat} {tpos : Pos} {x : Expr} {p pos : Pos} (hb : isB a = false) (hg : glB sc "enumerate" = true) (hn : notStar x = true) (ha : PE X x (tE (gl X) F W a)) : PI X (.Tuple elts kk tpos) (.Call (.Name "enumerate" p) [x] [] pos) (tI (gl X) F W (.enum a)) := by
  have hge : Gl X "enumerate" := gl_of (by rw [c.hs]; exact hg)
  have hA := pa_cons ha pa_nil (star_ok hn)
  refine ((pi_enum (p := p) (pos := pos) (tpos := tpos) (elts := elts) (kk := kk) hge (c.bi _ (by decide)) hA (star1 hn)).or (pi_enumT (p := p) (pos := pos) (tpos := tpos) (elts := elts) (kk := kk) hge (c.bi _ (by decide)) hA (star1 hn))).weak fun σ H Q h => ?_
  obtain ⟨P, st, hs, h⟩ := h
  simp only [evI] at h
  by_cases ht : ∃ l, evE a st = .ok (.tup l)
  · obtain ⟨l, e0⟩ := ht
    refine .inr (E_bindS hb hs h fun d v P1 H1 e1 g1 r1 h1 => ?_)
    obtain rfl : d = .tup l := by rw [e0] at e1; cases e1; rfl
    simp only [Rep] at r1
    obtain ⟨b, vs, rfl, q1, q2⟩ := r1
    exact ⟨b, vs, rfl, Same.tup g1.ph (.inl (.inl q1)), FinG.at_ (a := enumFrom 0 l) g1.ph h1 _ (serves_enumT (fun H' s => Same.tup s (.inl (.inl q1))) q2)⟩
  · refine .inl (E_bindS hb hs h fun d v P1 H1 e1 g1 r1 h1 => ?_)
    cases d with
    | lst l =>
      simp only [Rep] at r1
      obtain ⟨b, vs, rfl, q1, q2⟩ := r1
      exact ⟨b, vs, rfl, .of (g1.ph _ _ q1), FinG.at_ (a := enumFrom 0 l) g1.ph h1 _ (serves_enum (fun H' s => .of (s _ _ q1)) q2)⟩
    | scr l =>
      simp only [Rep] at r1
      obtain ⟨b, vs, rfl, q1, q2⟩ := r1
      exact ⟨b, vs, rfl, Same.seq g1.ph q1, FinG.at_ (a := enumFrom 0 l) g1.ph h1 _ (serves_enum (fun H' s => Same.seq s q1) q2)⟩
    | tup l => exact absurd ⟨l, e1⟩ ht
    | _ => exact h1.elim
/-- zip of two lists -/
def lstOf : D → Option (List D)
  | .lst l => some l
  | .scr l => some l
  | _ => none
theorem lst_split {G : Glob} {P : Hp} {d : D} {v : V} {l : List D} (hp : Rep G P d v) (e : lstOf d = some l) : ∃ a vs, v = .ref a ∧ (∀ H', Same P H' → SqL G.K H' a vs) ∧ Reps G P l vs := by
  cases d <;> simp only [lstOf] at e <;> cases e
  · simp only [Rep] at hp
    obtain ⟨a, vs, rfl, h1, h2⟩ := hp
    exact ⟨a, vs, rfl, fun H' s => .of (s _ _ h1), h2⟩
  · simp only [Rep] at hp
    obtain ⟨a, vs, rfl, h1, h2⟩ := hp
    exact ⟨a, vs, rfl, fun H' s => Same.seq s h1, h2⟩
theorem sI_zip (c : Cxt F W X N sc tn cm lv) {a b : IE} {elts : List Expr} {kk : Nat} {tpos : Pos} {x y : Expr} {p pos : Pos} (hb : isB a = false) (hb2 : isB b = false) (hg : glB sc "zip" = true) (hn : notStar x = true) (hn2 : notStar y = true) (ha : PE X x (tE (gl X) F W a)) (hbb : PE X y (tE (gl X) F W b)) :
    PI X (.Tuple elts kk tpos) (.Call (.Name "zip" p) [x, y] [] pos) (tI (gl X) F W (.zip a b)) :=
  (pi_zip (gl_of (by rw [c.hs]; exact hg)) (c.bi _ (by decide)) (pa_cons ha (pa_cons hbb pa_nil (star_ok hn2)) (star_ok hn)) (star_ok hn) (plain_ok fun e he => by rw [List.mem_singleton.mp he]; exact hn2)).weak fun σ H Q h => by
    obtain ⟨P, st, hs, h⟩ := h
    simp only [evI] at h
    refine E_bindS hb hs h fun d v P1 H1 e1 g1 r1 h1 => E_bindS hb2 (hs.grow g1) h1 fun d2 u P2 H2 e2 g2 r2 h2 => ?_
    cases q : lstOf d with
    | none =>
      exfalso
      cases d <;> first | exact h2 | cases q
    | some l =>
      have e3 : zseq d = .ok l := by
        cases d <;> first | (cases q; done) | (cases q; rfl)
      rw [e3] at h2
      cases q2 : lstOf d2 with
      | none =>
        exfalso
        cases d2 <;> first | exact h2 | cases q2
      | some m =>
        have e4 : zseq d2 = .ok m := by
          cases d2 <;> first | (cases q2; done) | (cases q2; rfl)
        rw [e4] at h2
        obtain ⟨A, vs, rfl, k1, k2⟩ := lst_split (r1.mono g2.pp) q
        obtain ⟨B, us, rfl, k3, k4⟩ := lst_split r2 q2
        exact ⟨A, B, vs, us, rfl, k1 _ g2.ph, k3 _ g2.ph, FinG.at_ (a := zipD l m) g2.ph h2 _ (serves_zip k1 k2 k3 k4)⟩

/-! ### comprehensions -/
def WF : WX := fun _ _ _ _ => False
theorem blk_cxt (c : Cxt F W X N sc tn true lv) {s : Shared} {H : Hp} {scope : Scope} {C : Addr} {cl : List (Str × Addr)} {fp : List Addr} : Cxt F WF (X.blk s H scope (compEnvC scope cl C X.env) fp) N (relS scope sc) scope.names true lv where
  hN := c.hN
  nd := c.nd
  hs := by
    rw [← c.hs]
    rfl
  calm := fun _ => c.calm rfl
  room := fun _ => c.room rfl
  un := c.un
  tk := takes0
  po := PassesOwn.never
  stl := fun x h => lookup_relS_keep (by decide) h
  stc := fun x h => ⟨lookup_relS_keep (by decide) h, by show (scope.names.lookup x == some .cell) = true; rw [h]; rfl⟩
  bi := c.bi
  xs := fun a cls dx h => by
    obtain ⟨X0, oe, pn, e, _⟩ := c.xs a cls dx h
    have := c.calm rfl
    rw [e] at this
    cases this
theorem noErr_ok {α : Type} {r : R α} {G : Glob} {W : WX} {σ : L2.St} {P H : Hp} {K : α → Hp → Hp → Prop} (h : FinG G W σ P H (noErr r) K) : ∃ a, r = .ok a ∧ FinG G W σ P H (.ok a) K := by
  cases r with
  | ok a => exact ⟨a, rfl, h⟩
  | err _ _ => exact h.elim
  | bad => exact h.elim
theorem lcRun_cons {bind : D → R ES} {test : ES → R Bool} {elt : ES → R D} {x : D} {l ds : List D} (h : lcRun bind test elt (x :: l) = .ok ds) :
    ∃ st b, bind x = .ok st ∧ test st = .ok b ∧ ((b = true ∧ ∃ y ys, elt st = .ok y ∧ lcRun bind test elt l = .ok ys ∧ ds = y :: ys) ∨ (b = false ∧ lcRun bind test elt l = .ok ds)) := by
  unfold lcRun at h
  cases e1 : bind x with
  | ok st =>
    rw [e1] at h
    have h1 : (test st).bind (fun b => if b = true then (elt st).bind fun y => (lcRun bind test elt l).bind fun ys => .ok (y :: ys) else lcRun bind test elt l) = .ok ds := h
    cases e2 : test st with
    | ok b =>
      rw [e2] at h1
      refine ⟨st, b, rfl, e2, ?_⟩
      cases b with
      | true =>
        have h2 : (elt st).bind (fun y => (lcRun bind test elt l).bind fun ys => R.ok (y :: ys)) = .ok ds := h1
        cases e3 : elt st with
        | ok y =>
          rw [e3] at h2
          have h3 : (lcRun bind test elt l).bind (fun ys => R.ok (y :: ys)) = .ok ds := h2
          cases e4 : lcRun bind test elt l with
          | ok ys => rw [e4] at h3; cases h3; exact .inl ⟨rfl, y, ys, rfl, rfl, rfl⟩
          | err _ _ => rw [e4] at h3; cases h3
          | bad => rw [e4] at h3; cases h3
        | err _ _ => rw [e3] at h2; cases h2
        | bad => rw [e3] at h2; cases h2
      | false => exact .inr ⟨rfl, h1⟩
    | err _ _ => rw [e2] at h1; cases h1
    | bad => rw [e2] at h1; cases h1
  | err _ _ => rw [e1] at h; cases h
  | bad => rw [e1] at h; cases h
/-- the reading of a comprehension -/
theorem lc_go {p : Pat} {own : List (Str × Nat)} {it : IT} {cs : IQs} {e : IE} {σ : L2.St} {H : Hp} {Q : VK} (hb : isB e = false) (hp : ∀ i ∈ p.slots, i ∈ own.map (·.2)) (h : tE (gl X) F W (.lc p own it cs e) σ H Q) :
    tLc (tI (gl X) F W it) (gP X.K p) (tC' (gl X) F WF cs) (tE (gl X) F WF e) (own.map (·.2)) σ H Q := by
  obtain ⟨P, st, hs, h⟩ := h
  simp only [evE] at h
  refine I_bind hs h fun l J P1 H1 g1 sv h1 => ?_
  obtain ⟨dd, h2, h3⟩ := noErr_ok h1
  intro Dl hD
  generalize hrun : lcRun (fun x => bindP p x (wipeS st (own.map (·.2)))) (fun s => evC cs s) (fun s => evE e s) l = rr at h2
  cases rr with
  | err _ _ => cases h2
  | bad => cases h2
  | ok ds =>
    have h4 : (if l.length ≤ LIM then R.ok (D.lst ds) else R.bad) = .ok dd := h2
    split at h4
    case isFalse => cases h4
    rename_i hlim
    cases h4
    have hs1 := hs.grow g1
    -- the invariant
    refine ⟨fun i m H' => m = l.length - i ∧ i ≤ l.length ∧ ∃ P' acc da, Gr P1 H1 P' H' ∧ P' Dl = none ∧ H' Dl = some (.lst acc) ∧ acc.length ≤ i ∧ Reps (gl X) P' da acc ∧
      ∃ r, lcRun (fun x => bindP p x (wipeS st (own.map (·.2)))) (fun s => evC cs s) (fun s => evE e s) (l.drop i) = .ok r ∧ ds = da ++ r, ⟨l.length, rfl, Nat.zero_le _, P1, [], [], Gr.made g1.ph hD, g1.ph.free hD, upd_same, Nat.le_refl _, Reps.nil, ds, by rw [List.drop_zero]; exact hrun, rfl⟩, fun i m H' hW => ?_⟩
    obtain ⟨hm, hi, P', acc, da, g, hPD, hHD, hacc, hreps, r, hr, hds⟩ := hW
    by_cases hlt : i < l.length
    · refine .inr ?_
      have hget : l[i]? = some l[i] := List.getElem?_eq_getElem hlt
      obtain ⟨hgo, hyld⟩ := (sv i H' (g.pp.trans g.ph)).2 _ hget
      rw [List.drop_eq_getElem_cons hlt] at hr
      obtain ⟨st1, b, hb1, hb2, hcase⟩ := lcRun_cons hr
      refine ⟨hgo, fun H2 => (l.length - (i + 1)) = l.length - (i + 1) ∧ i + 1 ≤ l.length ∧ ∃ P' acc da, Gr P1 H1 P' H2 ∧ P' Dl = none ∧ H2 Dl = some (.lst acc) ∧ acc.length ≤ i + 1 ∧ Reps (gl X) P' da acc ∧
        ∃ r, lcRun (fun x => bindP p x (wipeS st (own.map (·.2)))) (fun s => evC cs s) (fun s => evE e s) (l.drop (i + 1)) = .ok r ∧ ds = da ++ r, fun H2 hN => ⟨l.length - (i + 1), by omega, hN⟩, fun x H2 hy => ?_⟩
      obtain ⟨P2, g2, r2⟩ := hyld x H2 hy P' g.pp g.ph
      have hsw := ((hs1.grow g).grow g2).wipe (own.map (·.2))
      refine bindP_ok hsw hb1 r2 fun σ2 hs2 hw => ⟨?_, ?_⟩
      · rw [hw _ hp]; exact wipe_wipe_mem
      -- none of what is for good stands at D
      have nD : ∀ {Pn Hn : Hp}, Gr P' H' Pn Hn → Pn Dl = none := fun {Pn Hn} gg => by
        cases q : Pn Dl with
        | none => rfl
        | some o =>
          rcases gg.nw Dl o q with z | z
          · rw [hPD] at z; cases z
          · exact (z.not hHD fun _ e => by cases e).elim
      refine ⟨P2, st1, hs2, ?_⟩
      rw [hb2]
      intro P3 H3 g3
      rcases hcase with ⟨rfl, y, ys, e1, e2, rfl⟩ | ⟨rfl, e2⟩
      · rw [if_pos rfl]
        refine ⟨P3, st1, hs2.grow g3, ?_⟩
        rw [e1]
        intro P4 H4 g4 v rv
        obtain ⟨P5, g5, _, r5⟩ := rv.store hb g4
        have gall : Gr P' H' P5 H4 := (g2.trans g3).trans g5
        have hP5 : P5 Dl = none := nD gall
        have gtop := g.trans gall
        refine ⟨acc, gall.hh _ _ hHD, by rw [← lim_eq]; omega, rfl, by omega, P5, acc ++ [v], da ++ [y], ⟨gtop.pp, fun a o q => ?_, fun a o q => ?_, gtop.nw⟩, hP5, upd_same, ?_, (hreps.mono gall.pp).append (Reps.cons r5 Reps.nil), ys, e2, by rw [hds]; simp⟩
        · rw [upd_ne (ne_of_none q hD)]; exact gtop.hh _ _ q
        · rw [upd_ne (ne_of_none q hP5)]; exact gtop.ph _ _ q
        · rw [List.length_append]; simp only [List.length_cons, List.length_nil]; omega
      · rw [if_neg Bool.false_ne_true]
        have gall : Gr P' H' P3 H3 := g2.trans g3
        exact ⟨rfl, by omega, P3, acc, da, g.trans gall, nD gall, gall.hh _ _ hHD, by omega, hreps.mono gall.pp, r, e2, hds⟩
    · have hil : i = l.length := by omega
      subst hil
      rw [List.drop_length] at hr
      have er : r = [] := by unfold lcRun at hr; cases hr; rfl
      subst er
      refine .inl ⟨(sv _ H' (g.pp.trans g.ph)).1 (Nat.le_refl _), ?_⟩
      refine h3 P' H' g _ (ResE.of_fresh rfl rfl ⟨Dl, rfl, Same.free g1.hh hD, hPD, _, hHD, ?_⟩)
      rw [hds, List.append_nil]
      exact hreps
end
end M
set_option Elab.async false
set_option linter.all false
set_option maxRecDepth 100000
set_option maxHeartbeats 4000000
/-! A tuple turned round. -/
namespace HT
open PySem PySem.Spec PyProof.Rows
section
variable {prog : Program} {w : World} {A : Around} {E : Value → Shared → Prop} {s : Shared}
theorem adjust_rev (n : Nat) : Builtin.Slice.sliceAdjust none none (-1) (n : Int) = ((n : Int) - 1, -1) := rfl
theorem places_rev (n : Nat) : Builtin.Slice.slicePlaces ((n : Int) - 1) (-1) (-1) = n := by
  unfold Builtin.Slice.slicePlaces
  have h1 : ¬ ((-1 : Int) > 0) := by decide
  by_cases h : (n : Int) - 1 > -1
  · simp only [h1, if_false, h, if_true]
    have e : ((n : Int) - 1 - -1 - 1) / (- -1) = (n : Int) - 1 := by
      rw [show (- -1 : Int) = 1 by decide, Int.ediv_one]
      omega
    rw [e]
    omega
  · simp only [h1, if_false, h]
    omega
theorem sliceApplied_rev {sl : Addr} {vl vu vs : Value} {n : Nat} {Q : Int × Int × Nat → Shared → Prop} (hs : s.heap.IsSliceOf sl vl vu vs) (pl : IsPart vl none) (pu : IsPart vu none) (ps : IsPart vs (some (-1)))
    (h : Q ((n : Int) - 1, -1, n) s) : wpAny (model prog w) A (Builtin.Slice.sliceApplied (.ref sl) (pure (n : Int))) Q E s := by
  obtain ⟨os, hos, hcs, hds⟩ := id hs
  unfold Builtin.Slice.sliceApplied Builtin.Slice.sliceFields
  refine wpAny_bind (wpAny_bind (wpAny_field hos hds (x := vl) rfl (wpAny_bind (wpAny_field hos hds (x := vu) rfl (wpAny_bind (wpAny_field hos hds (x := vs) rfl (wpAny_pure ?_)))))))
  refine wpAny_bind (slicePart_ ps ?_)
  show wpAny _ _ (if ((-1 : Int) == 0) = true then _ else _) _ _ s
  rw [if_neg (by decide)]
  refine wpAny_bind (slicePart_ pl (wpAny_bind (slicePart_ pu (wpAny_bind (wpAny_pure ?_)))))
  show wpAny _ _ (match Builtin.Slice.sliceAdjust none none (-1) (n : Int) with | (lo, hi) => pure (lo, (-1 : Int), Builtin.Slice.slicePlaces lo hi (-1))) _ _ s
  rw [adjust_rev n]
  show wpAny _ _ (pure ((n : Int) - 1, (-1 : Int), Builtin.Slice.slicePlaces ((n : Int) - 1) (-1) (-1))) _ _ s
  rw [places_rev]
  exact wpAny_pure h
theorem fm_congr {α β : Type} {f g : α → Option β} : ∀ {l : List α}, (∀ x ∈ l, f x = g x) → l.filterMap f = l.filterMap g
  | [], _ => rfl
  | a :: l, h => by
    rw [List.filterMap_cons, List.filterMap_cons, h a List.mem_cons_self, fm_congr fun x hx => h x (List.mem_cons_of_mem _ hx)]
theorem pick_rev (xs : Array Value) : ((List.range xs.size).filterMap fun (m : Nat) => xs[((xs.size : Int) - 1 + (m : Int) * (-1)).toNat]?).toArray = xs.toList.reverse.toArray := by
  have e : ∀ m ∈ List.range xs.size, xs[((xs.size : Int) - 1 + (m : Int) * (-1)).toNat]? = xs[xs.size - 1 - m]? := fun m hm => by
    have := List.mem_range.mp hm
    have : ((xs.size : Int) - 1 + (m : Int) * (-1)).toNat = xs.size - 1 - m := by omega
    rw [this]
  rw [fm_congr e]
  have e2 : (List.range xs.size).filterMap (fun m => xs[xs.size - 1 - m]?) = ((List.range xs.size).map fun k => xs.size - 1 - k).filterMap (xs[·]?) := by
    rw [List.filterMap_map]
    rfl
  rw [e2, PySem.W.krv_range, List.filterMap_reverse, PySem.W.krv_all]
theorem getItem_tuple_rev {t sl : Addr} {items : Array Value} {vl vu vs : Value} {Q : Value → Shared → Prop} (ht : IsTup s.heap t items) (hs : s.heap.IsSliceOf sl vl vu vs) (pl : IsPart vl none) (pu : IsPart vu none) (ps : IsPart vs (some (-1)))
    (h : Q (.ref s.heap.objs.size) { s with heap := s.heap.push { cls := .type "tuple", data := .seq items.toList.reverse.toArray } })
    (hsz : items.size ≤ sizeLine) : wpAny (model prog w) A (getItem (.ref t) (.ref sl)) Q E s := by
  have htake : sizeOk (.seq items.toList.reverse.toArray) := by
    show items.toList.reverse.toArray.size ≤ sizeLine
    rw [List.size_toArray, List.length_reverse, Array.length_toList]
    exact hsz
  obtain ⟨os, hos, hcs, hds⟩ := id hs
  have hTs : s.TypeIs (.ref sl) "slice" := ⟨os, hos, hcs⟩
  unfold getItem
  try with_reducible refine wpAny_holding ?_
  first | refine wpAny_bind (wpAny_pure ?_) | skip
  refine wpAny_bind (wpAny_sequenceKey ht.typeIs (by decide) ?_)
  refine wpAny_bind (wpAny_callSpecial?_slot (name := Str.ofString "__getitem__") ht.typeIs PyProof.Rows.slot_tuple_getitem
    (wpAny_call_entry PyProof.Rows.slot_tuple_getitem ht.typeIs entry_tuple_getitem ?_ (args_tuple_getitem _ _)))
  show wpAny _ _ (Builtin.Tuple.tupleItemsOf (.ref t) >>= _) _ _ s
  refine wpAny_bind (tupleItemsOf_ ht ?_)
  refine wpAny_bind (wpAny_typeOf hTs ?_)
  rw [if_pos (by decide)]
  refine wpAny_bind (sliceApplied_rev hs pl pu ps ?_)
  have hno : ¬ ((((items.size : Int) - 1) == 0 && (-1 : Int) == 1 && items.size == items.size) = true) := by
    intro q
    rw [Bool.and_eq_true, Bool.and_eq_true] at q
    exact absurd q.1.2 (by decide)
  show wpAny _ _ (if (((items.size : Int) - 1) == 0 && (-1 : Int) == 1 && items.size == items.size) = true then _ else _) _ _ s
  rw [if_neg hno, pick_rev]
  first
    | exact wpAny_bind (m := Builtin.Tuple.tupleExact _) (wpAny_newObj_type (wpAny_pure ⟨_, rfl, wpAny_pure h⟩) htake)
    | exact wpAny_bind (m := Builtin.Tuple.tupleExact _) (wpAny_newObj_type (wpAny_bind (wpAny_pure (wpAny_pure ⟨_, rfl, wpAny_pure h⟩))) htake)
    | exact wpAny_bind (wpAny_bind (m := Builtin.Tuple.tupleExact _) (wpAny_newObj_type (wpAny_pure (wpAny_pure ⟨_, rfl, wpAny_pure h⟩)) htake))
    | exact wpAny_bind (wpAny_bind (m := Builtin.Tuple.tupleExact _) (wpAny_newObj_type (wpAny_pure ⟨_, rfl, wpAny_pure h⟩) htake))
end
end HT
namespace M
open PySem PySem.Spec PyProof.Rows L2
section
variable {X : Cx}
def tRevM (K : PySem.W.Frag) (te : TE) : TE := fun σ H Q => te σ H fun x H1 => (∃ a xs, x = .ref a ∧ SqL K H1 a xs ∧ ∀ p, H1 p = none → Q (.ref p) (upd H1 p (.lst xs.reverse))) ∨ (∃ a xs, x = .ref a ∧ SqT K H1 a xs ∧ ∀ p, H1 p = none → Q (.ref p) (upd H1 p (.tup xs.reverse)))
theorem pe_revM {e : Expr} {te : TE} {k : Nat} {p1 p2 p3 pos : Pos} (he : PE X e te) : PE X (.Subscript e (.Slice none none (some (.UnaryOp .USub (.Constant (.int 1) k p1) p2)) p3) pos) (tRevM X.K te) := by
  refine ⟨fun pins s σ H Q I h => ?_⟩
  refine Subscript_ (thn (he.run pins s σ H _ I h) fun v s1 ⟨x, H1, I1, r1, q1⟩ => ?_)
  have hst : PO X (some (.UnaryOp .USub (.Constant (.int 1) k p1) p2)) (tPart (tUn (rU fun i => .int (-i)) (tC (.int 1)))) := po_some (pe_un un_neg pe_int)
  refine wpAny_Slice (thn (po_none.run pins s1 σ H1 (fun o H2 => o = none ∧ H2 = H1) I1 ⟨rfl, rfl⟩) fun vl s2 ⟨l, H2, I2, pl, el, e2⟩ => ?_)
  subst el e2
  refine thn (po_none.run pins s2 σ H2 (fun o H3 => o = none ∧ H3 = H2) I2 ⟨rfl, rfl⟩) fun vu s3 ⟨u, H3, I3, pu, eu, e3⟩ => ?_
  subst eu e3
  refine thn (hst.run pins s3 σ H3 (fun o H4 => o = some (-1) ∧ H4 = H3) I3 ⟨1, rfl, -1, rfl, rfl, rfl⟩) fun vs s4 ⟨o, H4, I4, ps, eo, e4⟩ => ?_
  subst eo e4
  have I5 : Inv X pins σ H4 { s4 with heap := s4.heap.push { cls := .type "slice", data := .fields #[vl, vu, vs] } } := I4.kept (t' := s4.toks) fun b ob q => Heap.get?_push_of_some _ q
  rcases q1 with ⟨a, xs, ex, hx, q⟩ | ⟨a, xs, ex, hx, q⟩
  · subst ex
    cases r1
    obtain ⟨its, r, ht, hz⟩ := I5.list hx
    have hlen := r.length
    show wpAny (model X.prog X.w) X.A (subscriptTail e (.Slice none none (some (.UnaryOp .USub (.Constant (.int 1) k p1) p2)) p3) (.ref a) (.ref s4.heap.objs.size)) (EP X pins σ Q) X.xe { s4 with heap := s4.heap.push { cls := .type "slice", data := .fields #[vl, vu, vs] } }
    refine tail_any (ops := [.ref a, .ref s4.heap.objs.size]) ht.isList.typeIs (PySem.slot_list_getitem.lookup) ?_ (by with_unfolding_all rfl)
    refine wpAny_getItem_list_slice ht.isList (Heap.IsSliceOf.new _ vl vu vs) pl pu ps (by decide) ?_ (by rw [List.size_toArray]; omega)
    rw [PySem.W.krv_pick]
    refine ⟨.ref _, _, I5.laid (t' := s4.toks) (o := .lst xs.reverse) (fun b ob q => Heap.get?_push_of_some _ q) (Nat.le_refl _) ?_, rfl, q _ (I5.hok.fresh (Nat.le_refl _))⟩
    exact ⟨by rw [List.length_reverse]; exact hz, _, 0, r.reverse, Heap.get?_push_size _ rfl⟩
  · subst ex
    cases r1
    obtain ⟨its, r, ht, hz⟩ := I5.tuple hx
    have hlen := r.length
    show wpAny (model X.prog X.w) X.A (subscriptTail e (.Slice none none (some (.UnaryOp .USub (.Constant (.int 1) k p1) p2)) p3) (.ref a) (.ref s4.heap.objs.size)) (EP X pins σ Q) X.xe { s4 with heap := s4.heap.push { cls := .type "slice", data := .fields #[vl, vu, vs] } }
    refine tail_any (ops := [.ref a, .ref s4.heap.objs.size]) ht.typeIs (PyProof.Rows.slot_tuple_getitem.lookup) ?_ (by with_unfolding_all rfl)
    refine HT.getItem_tuple_rev ht (Heap.IsSliceOf.new _ vl vu vs) pl pu ps ?_ (by rw [List.size_toArray]; omega)
    refine ⟨.ref _, _, I5.laid (t' := s4.toks) (o := .tup xs.reverse) (fun b ob q => Heap.get?_push_of_some _ q) (Nat.le_refl _) ?_, rfl, q _ (I5.hok.fresh (Nat.le_refl _))⟩
    exact ⟨by rw [List.length_reverse]; exact hz, _, r.reverse, IsTup.new _ _⟩
end
end M
set_option Elab.async false
set_option linter.all false
set_option maxRecDepth 100000
set_option maxHeartbeats 4000000
/-! M: set(xs) and sorted(set(xs)), xs a list of ints. -/
namespace M
open PySem L2 PySem.Spec PyProof.Rows
/-- a set as it begins -/
abbrev setB (w : World) : Obj := { cls := .type "set", dict := none, data := .set #[] 0 (.fresh 0 0 (!w.params.followText "set-order")) }
section
variable {P : Program} {w : World} {A : Around} {E : Value → Shared → Prop} {s : Shared}
set_option maxHeartbeats 8000000 in
theorem setOfL {l : Addr} {items : Array Value} (ns : List Int) {Q : Value → Shared → Prop} (hh : A.handled = none) (hl : s.heap.IsList l items) (hit : IntsAre items.toList ns) (hb : ns.length + 1 < scanBound)
    (h : ∀ (h' : Heap) (tk c : Nat), SetR w h' s.heap.objs.size (fun j => decide (j ∈ ns)) c → c ≤ ns.length → (∀ b o, s.heap.get? b = some o → h'.get? b = some o) → Q (.ref s.heap.objs.size) { s with heap := h', toks := tk }) :
    wpAny (model P w) A (call (.type "set") [.ref l]) Q E s := by
  have esz : items.size = ns.length := (Array.length_toList).symm.trans (IntsAre.length hit)
  obtain ⟨c, tl, hmro⟩ := F.called_set.mro
  have k1 := F.called_set.made
  have k2 := F.called_set.sub
  have k3 := F.called_set.notType
  have k4 := F.called_set.canCreate
  have k5 := F.typeCall_set_1 (.ref l)
  refine wpAny_call (codeAny_of_tree ?_)
  show wpAny _ _ (callAny (.type "set") _) _ _ _
  refine wpAny_pure ⟨Code.quiet_builtin _ (by decide +kernel), codeAny_builtin F.entry_type_call ?_⟩
  rw [Around.under_plain (weight_type_call_type "set" [.ref l] []) rfl]
  repeat (any_goals (first | assumption | wp_step))
  refine codeAny_mono (code_set_led1 (.ref l) (E := E) (Q₁ := fun o s₁ => o = .ref s.heap.objs.size ∧ s₁ = { s with heap := s.heap.push (setB w) }) ⟨rfl, rfl⟩) fun r s₁ hr => ?_
  cases r with
  | error e => exact hr
  | ok fl =>
    cases fl with
    | ret o =>
      obtain ⟨rfl, rfl⟩ := hr
      have g0 : (s.heap.push (setB w)).get? s.heap.objs.size = some (setB w) := Heap.get?_push_size _ rfl
      have g1 : Shared.TypeIs { s with heap := s.heap.push (setB w) } (.ref s.heap.objs.size) "set" := ⟨_, g0, rfl⟩
      have k6 := F.called_set.init.lookup
      have k7 := F.called_set.init.bind (.ref s.heap.objs.size)
      repeat (any_goals (first | assumption | wp_step))
      refine codeAny_mono (codeAny_call_builtin (R := wants (fun r s₂ => r = .none ∧ ∃ h' tk c, s₂ = { s with heap := h', toks := tk } ∧ SetR w h' s.heap.objs.size (fun j => decide (j ∈ ns)) c ∧ c ≤ ns.length ∧
          (∀ b o, s.heap.get? b = some o → h'.get? b = some o)) E) F.called_set.init.plain F.entry_set_init (check_set_init_1 g1 ?_)) fun r₂ s₂ hr₂ => ?_
      · obtain ⟨⟨ocls, odict, odata, oslots⟩, hol, hcl, nl, hdl⟩ := hl
        simp only at hcl hdl
        subst hcl; subst hdl
        have k8 := F.sub_list_set
        have k9 := F.sub_list_frozenset
        have hol' : (s.heap.push (setB w)).get? l = some { cls := .type "list", dict := odict, data := .seq items nl, slots := oslots } := Heap.get?_push_of_some _ hol
        have hne : (Value.type "list" == Value.type "dict") = false := by decide
        have hl1 : (s.heap.push (setB w)).IsList l items := ⟨_, hol', rfl, nl, rfl⟩
        unfold Builtin.«set.__init__» noKeywords Builtin.Frozenset.updateFrom
        generalize hPI : pyIter = PI
        wp_walk
        subst hPI
        refine wpAny_pyIter_list hl1 (wpAny_bind (wpAny_runValue ?_))
        have lS : l < s.heap.objs.size := Heap.lt_size hol
        have z1 : (s.heap.push (setB w)).objs.size = s.heap.objs.size + 1 := Heap.size_push ..
        have nI : l ≠ (s.heap.push (setB w)).objs.size := by rw [z1]; exact Nat.ne_of_lt (Nat.lt_succ_of_lt lS)
        refine set_update_ints ((Walks.list (by simp [hh]) _ l nI items).toS) s.heap.objs.size (by
            rw [z1]
            simp only [List.mem_cons, List.mem_singleton, List.not_mem_nil, or_false, not_or]
            exact ⟨Nat.ne_of_lt (Nat.lt_succ_self _), Nat.ne_of_gt lS⟩) ns esz hb (fun i v hv => ?_) (items.size - 0) 0 _ (by omega) (Nat.zero_le _) ⟨⟨_, Heap.get?_push_size _ rfl, rfl, rfl⟩, (hl1.push _)⟩ ⟨0, Nat.le_refl 0, setR_new_at (Heap.get?_push_of_some _ g0)⟩ ?_
        · have hi : i < ns.length := by rw [← esz]; exact (Array.getElem?_eq_some_iff.mp hv).1
          obtain ⟨t, e⟩ := IntsAre.int_at hit i v (by rw [Array.getElem?_toList]; exact hv)
          refine ⟨ns[i], t, List.getElem?_eq_getElem hi, ?_⟩
          rw [e, List.getD_eq_getElem?_getD, List.getElem?_eq_getElem hi] <;> rfl
        · intro s' c' hm hc' hS'
          obtain ⟨h', g2, d', tk', os'⟩ := s'
          have e1 : g2 = s.gens := hm.gens
          have e2 : d' = s.drawn := hm.drawn
          have e3 : os' = s.os := hm.os
          subst e1; subst e2; subst e3
          show wpAny _ _ _ _ _ _
          refine wpAny_pure ?_
          show wpAny _ _ (ret Value.none) _ _ _
          rw [esz] at hc'
          refine wpAny_pure ⟨rfl, h', tk', c', rfl, hS', hc', fun b o e => ?_⟩
          have b0 : b < s.heap.objs.size := Heap.lt_size e
          exact hm.heap b o (by
            rw [z1]
            simp only [List.mem_cons, List.mem_singleton, List.not_mem_nil, or_false, not_or]
            exact ⟨Nat.ne_of_lt b0, Nat.ne_of_lt (Nat.lt_succ_of_lt b0)⟩) (Heap.get?_push_of_some _ (Heap.get?_push_of_some _ e))
      · cases r₂ with
        | error e => exact hr₂
        | ok fl₂ =>
          cases fl₂ with
          | ret r =>
            obtain ⟨rfl, h', tk, c', rfl, hS', hc', hk'⟩ := hr₂
            repeat (any_goals (first | assumption | wp_step))
            exact h _ _ _ hS' hc' hk'
          | _ => exact hr₂.elim
    | _ => exact hr.elim
end
section
variable {P : Program} {w : World} {A : Around} {E : Value → Shared → Prop} {s : Shared}
set_option maxHeartbeats 8000000 in
/-- set(t), t a tuple of tuples of ints -/
theorem setOfTT {l : Addr} {items : Array Value} (ks : List (Addr × List Int)) {Q : Value → Shared → Prop} (hh : A.handled = none) (hl : s.heap.IsTuple l items) (hit : items.toList = ks.map fun p => Value.ref p.1)
    (hk : ∀ p ∈ ks, IsT P w s.heap p.2 p.1) (hfew : ks.length < 64) (hu : A.units + 3 < cLine)
    (h : ∀ (h' : Heap) (tk : Nat) L es ep t, SetTR P w h' s.heap.objs.size L es ep t → Got ks ks.length L → (∀ b o, s.heap.get? b = some o → h'.get? b = some o) → Q (.ref s.heap.objs.size) { s with heap := h', toks := tk }) :
    wpAny (model P w) A (call (.type "set") [.ref l]) Q E s := by
  have esz : items.size = ks.length := by rw [← Array.length_toList, hit, List.length_map]
  obtain ⟨c, tl, hmro⟩ := F.called_set.mro
  have k1 := F.called_set.made
  have k2 := F.called_set.sub
  have k3 := F.called_set.notType
  have k4 := F.called_set.canCreate
  have k5 := F.typeCall_set_1 (.ref l)
  refine wpAny_call (codeAny_of_tree ?_)
  show wpAny _ _ (callAny (.type "set") _) _ _ _
  refine wpAny_pure ⟨Code.quiet_builtin _ (by decide +kernel), codeAny_builtin F.entry_type_call ?_⟩
  rw [Around.under_plain (weight_type_call_type "set" [.ref l] []) rfl]
  repeat (any_goals (first | assumption | wp_step))
  refine codeAny_mono (code_set_led1 (.ref l) (E := E) (Q₁ := fun o s₁ => o = .ref s.heap.objs.size ∧ s₁ = { s with heap := s.heap.push (setB w) }) ⟨rfl, rfl⟩) fun r s₁ hr => ?_
  cases r with
  | error e => exact hr
  | ok fl =>
    cases fl with
    | ret o =>
      obtain ⟨rfl, rfl⟩ := hr
      have g0 : (s.heap.push (setB w)).get? s.heap.objs.size = some (setB w) := Heap.get?_push_size _ rfl
      have g1 : Shared.TypeIs { s with heap := s.heap.push (setB w) } (.ref s.heap.objs.size) "set" := ⟨_, g0, rfl⟩
      have k6 := F.called_set.init.lookup
      have k7 := F.called_set.init.bind (.ref s.heap.objs.size)
      repeat (any_goals (first | assumption | wp_step))
      refine codeAny_mono (codeAny_call_builtin (R := wants (fun r s₂ => r = .none ∧ ∃ h' tk L es ep t, s₂ = { s with heap := h', toks := tk } ∧ SetTR P w h' s.heap.objs.size L es ep t ∧ Got ks ks.length L ∧
          (∀ b o, s.heap.get? b = some o → h'.get? b = some o)) E) F.called_set.init.plain F.entry_set_init (check_set_init_1 g1 ?_)) fun r₂ s₂ hr₂ => ?_
      · obtain ⟨⟨ocls, odict, odata, oslots⟩, hol, hcl, nl, hdl⟩ := hl
        simp only at hcl hdl
        subst hcl; subst hdl
        have k8 := F.sub_tuple_set
        have k9 := F.sub_tuple_frozenset
        have hol' : (s.heap.push (setB w)).get? l = some { cls := .type "tuple", dict := odict, data := .seq items nl, slots := oslots } := Heap.get?_push_of_some _ hol
        have hne : (Value.type "tuple" == Value.type "dict") = false := by decide
        have hl1 : (s.heap.push (setB w)).IsTuple l items := ⟨_, hol', rfl, nl, rfl⟩
        unfold Builtin.«set.__init__» noKeywords Builtin.Frozenset.updateFrom
        generalize hPI : pyIter = PI
        wp_walk
        subst hPI
        refine wpAny_pyIter_tuple hl1 (wpAny_bind (wpAny_runValue ?_))
        have lS : l < s.heap.objs.size := Heap.lt_size hol
        have z1 : (s.heap.push (setB w)).objs.size = s.heap.objs.size + 1 := Heap.size_push ..
        have nI : l ≠ (s.heap.push (setB w)).objs.size := by rw [z1]; exact Nat.ne_of_lt (Nat.lt_succ_of_lt lS)
        have free : ∀ b, s.heap.objs.size ≤ b → s.heap.get? b = none := fun b hb => by
          cases q : s.heap.get? b with
          | none => rfl
          | some o => exact absurd (Nat.lt_of_lt_of_le (Heap.lt_size q) hb) (Nat.lt_irrefl _)
        refine set_update_tups ((Walks.tuple (by simp [hh]) _ l nI items).toS) s.heap.objs.size (by
            rw [z1]
            simp only [List.mem_cons, List.mem_singleton, List.not_mem_nil, or_false, not_or]
            exact ⟨Nat.ne_of_lt (Nat.lt_succ_self _), Nat.ne_of_gt lS⟩) ks esz hfew (fun i v hv => ?_) s.heap hk (free _ (Nat.le_refl _)) (fun b hb => free b (by
            rw [List.mem_singleton.mp hb, z1]
            exact Nat.le_succ _)) hu (items.size - 0) 0 _ (by omega) (Nat.zero_le _) ⟨⟨_, Heap.get?_push_size _ rfl, rfl, rfl⟩, (hl1.push _)⟩ (fun b o e => Heap.get?_push_of_some _ (Heap.get?_push_of_some _ e)) ⟨[], #[], 0, _, setTR_fresh (Heap.get?_push_of_some _ g0), Got.zero ks⟩ ?_
        · have q : items.toList[i]? = some v := by rw [Array.getElem?_toList]; exact hv
          rw [hit, List.getElem?_map] at q
          cases hq : ks[i]? with
          | none => rw [hq] at q; cases q
          | some p =>
            rw [hq] at q
            exact ⟨p, rfl, (Option.some.inj q).symm⟩
        · intro s' L es ep t hm hS' g' hkp
          obtain ⟨h', g2, d', tk', os'⟩ := s'
          have e1 : g2 = s.gens := hm.gens
          have e2 : d' = s.drawn := hm.drawn
          have e3 : os' = s.os := hm.os
          subst e1; subst e2; subst e3
          show wpAny _ _ _ _ _ _
          refine wpAny_pure ?_
          show wpAny _ _ (ret Value.none) _ _ _
          rw [esz] at g'
          exact wpAny_pure ⟨rfl, h', tk', L, es, ep, t, rfl, hS', g', hkp⟩
      · cases r₂ with
        | error e => exact hr₂
        | ok fl₂ =>
          cases fl₂ with
          | ret r =>
            obtain ⟨rfl, h', tk, L, es, ep, t, rfl, hS', g', hk'⟩ := hr₂
            repeat (any_goals (first | assumption | wp_step))
            exact h _ _ _ _ _ _ hS' g' hk'
          | _ => exact hr₂.elim
    | _ => exact hr.elim
end
section
variable {X : Cx}
/-- .. of a list, or of a tuple -/
def rSetOfV (K : PySem.W.Frag) (P : Program) (w : World) : List V → Hp → VK → Prop := fun xs H Q => ∃ (l : Addr) (ks : List (Addr × List Int)), xs = [V.ref l] ∧ (SqL K H l (ks.map fun p => V.ref p.1) ∨ SqT K H l (ks.map fun p => V.ref p.1)) ∧ (∀ p ∈ ks, SqT K H p.1 (p.2.map V.int)) ∧ ks.length < 64 ∧
  ∀ a L, H a = none → (∀ p ∈ L, p ∈ ks) → (∀ p ∈ ks, p.2 ∈ L.map (·.2)) → Q (.ref a) (upd H a (SetTO P w a L))
theorem cr_setOfV (hc : X.calm = true) (hu : X.A.units + 64 < cLine) : CallR X (.type "set") (rSetOfV X.K X.prog X.w) := by
  intro pins s σ H xs us Q I r h
  obtain ⟨l, ks, rfl, hl | hl, hk, hf, q⟩ := h
  · exact cr_setOfT hc hu pins s σ H _ us Q I r ⟨l, ks, rfl, hl, hk, hf, q⟩
  · rw [Vals.ref1 r]
    obtain ⟨its, rv, pl, _⟩ := I.tuple hl
    have hn : H s.heap.objs.size = none := I.hok.fresh (Nat.le_refl _)
    refine setOfTT (P := X.prog) (w := X.w) ks (I.ok.hd hc) pl (by simpa using refs_of_vals rv) (fun p hp => I.isT (hk p hp)) hf (by omega) fun h' tk L es ep t R g k => ?_
    refine ⟨.ref s.heap.objs.size, upd H s.heap.objs.size (SetTO X.prog X.w s.heap.objs.size L), I.laid (t' := tk) k (Nat.le_refl _) (setTO_new R.t0), rfl, q _ L hn (fun p hp => ?_) fun p hp => ?_⟩
    · exact List.mem_of_mem_take (g.sub p hp)
    · exact g.all p (by rw [List.take_length]; exact hp)
end
section
variable {X : Cx}
def rSetI (K : PySem.W.Frag) (w : World) : List V → Hp → VK → Prop := fun xs H Q => ∃ (l : Addr) (ns : List Int), xs = [V.ref l] ∧ SqL K H l (ns.map V.int) ∧ ns.length < 4000 ∧
  ∀ a n, H a = none → (∀ ms : List Int, ms.Nodup → (∀ k, k ∈ ms ↔ k ∈ ns) → n = ms.length) → Q (.ref a) (upd H a (SetO w a (fun k => decide (k ∈ ns)) n))
theorem setR_count {w : World} {h : Heap} {a : Addr} {ns ms : List Int} {c : Nat} (R : SetR w h a (fun j => decide (j ∈ ns)) c) (hn : ms.Nodup) (hm : ∀ k, k ∈ ms ↔ k ∈ ns) : c = ms.length := by
  obtain ⟨o, es, ep, t, _, _, _, _, nd, mem, _, _, he, _⟩ := R
  rw [← he, ← Array.length_toList, ← List.length_map (f := keyOf)]
  refine ((List.perm_ext_iff_of_nodup nd hn).mpr fun k => ?_).length_eq
  rw [hm, ← mem k, decide_eq_true_eq]
theorem cr_setI (hc : X.calm = true) : CallR X (.type "set") (rSetI X.K X.w) := by
  intro pins s σ H xs us Q I r h
  obtain ⟨l, ns, rfl, hl, h4, q⟩ := h
  rw [Vals.ref1 r]
  obtain ⟨its, rv, pl, _⟩ := I.list hl
  refine setOfL (P := X.prog) (w := X.w) ns (I.ok.hd hc) pl.isList (by simpa using rv.ints) (by unfold scanBound; omega) fun h' tk c R hc' k => ?_
  exact ⟨.ref s.heap.objs.size, _, I.laid (t' := tk) k (Nat.le_refl _) (setO_new R), rfl, q _ c (I.hok.fresh (Nat.le_refl _)) (fun ms h1 h2 => setR_count R h1 h2)⟩
end
end M
set_option Elab.async false
set_option linter.all false
set_option maxRecDepth 100000
set_option maxHeartbeats 2000000
/-! M, part Y: isinstance, the greatest and least of three, `is` of truth values, a list turned round, len(set(..)). -/
namespace M
open PySem L2 PySem.Spec PyProof.Rows
section
variable {X : Cx} {F : Fx} {W : WX} {N : List Str} {sc : Scope} {tn : List (Str × NameKind)} {lv : Nat}

/-! ### isinstance -/
def Ty.id : Ty → String
  | .non => "NoneType" | .bool => "bool" | .int => "int" | .str => "str" | .tuple => "tuple" | .list => "list"
def Ty.nm : Ty → Str
  | .non => "" | .bool => "bool" | .int => "int" | .str => "str" | .tuple => "tuple" | .list => "list"
theorem isiT_kit (a t : Ty) (h : t ≠ .non) : kitB a.id t.id = some (isiT a t) := by
  cases t <;> first | exact absurd rfl h | (cases a <;> decide +kernel)
theorem Ty.boot (t : Ty) (h : t ≠ .non) : bootBuiltins t.nm = some (.type t.id) := by
  cases t <;> first | exact absurd rfl h | decide +kernel
/-- the type of a value, of the kinds that are looked at -/
theorem tyD_of {G : Glob} {P H : Hp} (s : Same P H) {d : D} {v : V} {t : Ty} (hr : Val G P H d v) (h : tyD d = some t) : TyX G.K H v (.type t.id) := by
  cases d with
  | non => cases h; rw [hr.non]; exact .base .non
  | bl x => cases h; rw [hr.bl]; exact .base (.bl x)
  | int x => cases h; rw [hr.int]; exact .base (.int x)
  | str x => cases h; rw [hr.str]; exact .base (.str x)
  | lst l =>
    cases h
    obtain ⟨a, vs, rfl, h1, h2⟩ := hr.lst s
    exact .base (.lst h1)
  | tup l =>
    cases h
    obtain ⟨a, vs, rfl, _, h1, h2⟩ := hr.tup s
    rcases h1 with (h1 | ⟨o, h1⟩) | ⟨o, its, n, h1, h2, _⟩
    · exact .base (.tup h1)
    · exact .fTuple h1
    · exact .kTuple h1 h2
  | dic _ _ _ => cases h
  | scr _ => cases h
  | obj _ _ _ => cases h
  | exv _ _ _ => cases h
  | fn _ => cases h
theorem sE_isi (c : Cxt F W X N sc tn true lv) {t : Ty} {a : IE} {x : Expr} {p p2 pos : Pos} (ht : t ≠ .non) (hg : glB sc "isinstance" = true) (hg2 : glB sc t.nm = true) (hn : notStar x = true) (ha : PE X x (tE (gl X) F W a)) :
    PE X (.Call (.Name "isinstance" p) [x, .Name t.nm p2] [] pos) (tE (gl X) F W (.isi a t)) := by
  have hT : PE X (.Name t.nm p2) (tC (.ty t.id)) := pe_bltn (u := .type t.id) (gl_of (by rw [c.hs]; exact hg2)) (c.bi _ (by cases t <;> first | exact absurd rfl ht | decide)) (t.boot ht) rfl (by cases t <;> decide) (by cases t <;> decide)
  have hA : PA X [x, .Name t.nm p2] (tCons (tE (gl X) F W a) (tCons (tC (.ty t.id)) tNil)) := pa_cons ha (pa_cons hT pa_nil rfl) (star_ok hn)
  refine (pe_callB call_isi (gl_of (by rw [c.hs]; exact hg)) (c.bi _ (by decide)) PyProof.Rows.boot_isinstance hA (by decide) (by decide) (star_ok hn) rfl).weak fun σ H Q h => ?_
  obtain ⟨P, st, hs, h⟩ := h
  simp only [evE] at h
  refine E_bind hs h fun d v P1 H1 _ g1 r1 h1 => ?_
  show rIsi X.K [v, .ty t.id] H1 Q
  unfold isiD at h1
  cases q : tyD d with
  | none => rw [q] at h1; exact h1.elim
  | some k =>
    rw [q] at h1
    exact ⟨v, _, _, _, _, rfl, .ty _, tyD_of (G := gl X) g1.ph r1.val q, kit_ty (isiT_kit k t ht), FinG.at_ g1.ph h1 _ (ResE.of_plain rfl rfl rep_bl)⟩

/-! ### three numbers -/
def B2.nu3 : B2 → V → V → V → Option V
  | .max => nuMax3 | .min => nuMin3
theorem b3_of {X : Cx} (hc : X.calm = true) : ∀ f : B2, CallR X (.builtin f.id) (rNuC3 f.nu3)
  | .max => call_max3Nu hc
  | .min => call_min3Nu hc
theorem b2D_int {f : B2} {x y d : D} (e : b2D f x y = .ok d) : ∃ i j k, x = .int i ∧ y = .int j ∧ d = .int k := by
  unfold b2D at e
  split at e <;> first | (cases e; exact ⟨_, _, _, rfl, rfl, rfl⟩) | cases e
theorem nu3_ok {f : B2} {i j k : Int} {m d : D} (e1 : b2D f (.int i) (.int j) = .ok m) (e2 : b2D f m (.int k) = .ok d) : ∃ z, d = .int z ∧ f.nu3 (.int i) (.int j) (.int k) = some (.int z) := by
  cases f
  · cases e1
    by_cases h : i < j
    · rw [if_pos h] at e2
      cases e2
      refine ⟨_, rfl, ?_⟩
      simp only [B2.nu3, nuMax3, nuMax2, nuLt, nuCB, Option.map, Option.bind, h, decide_true, if_true]
      by_cases h2 : j < k <;> simp [h2]
    · rw [if_neg h] at e2
      cases e2
      refine ⟨_, rfl, ?_⟩
      simp only [B2.nu3, nuMax3, nuMax2, nuLt, nuCB, Option.map, Option.bind, h, decide_false, Bool.false_eq_true, if_false]
      by_cases h2 : i < k <;> simp [h2]
  · cases e1
    by_cases h : j < i
    · rw [if_pos h] at e2
      cases e2
      refine ⟨_, rfl, ?_⟩
      simp only [B2.nu3, nuMin3, nuMin2, nuLt, nuCB, Option.map, Option.bind, h, decide_true, if_true]
      by_cases h2 : k < j <;> simp [h2]
    · rw [if_neg h] at e2
      cases e2
      refine ⟨_, rfl, ?_⟩
      simp only [B2.nu3, nuMin3, nuMin2, nuLt, nuCB, Option.map, Option.bind, h, decide_false, Bool.false_eq_true, if_false]
      by_cases h2 : k < i <;> simp [h2]
theorem sE_b3 (c : Cxt F W X N sc tn true lv) {f : B2} {a b d : IE} {x y z : Expr} {p pos : Pos} (hg : glB sc f.nm = true) (hn : notStar x = true) (hn2 : notStar y = true) (hn3 : notStar z = true) (ha : PE X x (tE (gl X) F W a)) (hb : PE X y (tE (gl X) F W b)) (hd : PE X z (tE (gl X) F W d)) :
    PE X (.Call (.Name f.nm p) [x, y, z] [] pos) (tE (gl X) F W (.b3 f a b d)) := by
  have hA : PA X [x, y, z] (tCons (tE (gl X) F W a) (tCons (tE (gl X) F W b) (tCons (tE (gl X) F W d) tNil))) := pa_cons ha (pa_cons hb (pa_cons hd pa_nil (star_ok hn3)) (star_ok hn2)) (star_ok hn)
  refine (pe_callB (b3_of (c.calm rfl) f) (gl_of (by rw [c.hs]; exact hg)) (c.bi _ (by cases f <;> decide)) f.boot hA (by cases f <;> decide) (by cases f <;> decide) (star_ok hn) (plain_ok fun e he => by
    rcases List.mem_cons.mp he with rfl | he
    · exact hn2
    · rw [List.mem_singleton.mp he]; exact hn3)).weak fun σ H Q h => ?_
  obtain ⟨P, st, hs, h⟩ := h
  simp only [evE] at h
  refine E_bind hs h fun x v P1 H1 _ g1 r1 h1 => E_bind (hs.grow g1) h1 fun y u P2 H2 _ g2 r2 h2 => E_bind ((hs.grow g1).grow g2) h2 fun z w P3 H3 _ g3 r3 h3 => ?_
  show rNuC3 f.nu3 [v, u, w] H3 Q
  cases e1 : b2D f x y with
  | ok m =>
    rw [e1] at h3
    have h3 : FinG (gl X) W σ P3 H3 (b2D f m z) (fun d' P' H' => ∀ v, ResE (gl X) (.b3 f a b d) H P' H' d' v → Q v H') := h3
    cases e2 : b2D f m z with
    | ok r =>
      rw [e2] at h3
      obtain ⟨i, j, _, rfl, rfl, rfl⟩ := b2D_int e1
      obtain ⟨_, k, _, _, rfl, _⟩ := b2D_int e2
      obtain ⟨zz, rfl, hz⟩ := nu3_ok e1 e2
      rw [r1.val.int, r2.val.int, r3.val.int]
      exact ⟨_, _, _, _, rfl, hz, FinG.at_ g3.ph h3 _ (ResE.of_plain rfl rfl rep_int)⟩
    | err _ _ =>
      exfalso
      unfold b2D at e2
      split at e2 <;> cases e2
    | bad => rw [e2] at h3; exact h3.elim
  | err _ _ =>
    exfalso
    unfold b2D at e1
    split at e1 <;> cases e1
  | bad => rw [e1] at h3; exact h3.elim

/-! ### is True, is False -/
theorem isb_noerr {b : Bool} {x : D} {c : Str} {p : Option (Str × D)} : isbD b x ≠ .err c p := by
  cases x <;> intro h <;> cases h
theorem sE_isb {cm : Bool} (c : Cxt F W X N sc tn cm lv) {a : IE} {b : Bool} {x : Expr} {j : Nat} {p pos : Pos} (ha : PE X x (tE (gl X) F W a)) : PE X (.Compare x [.Is] [.Constant (.bool b) j p] pos) (tE (gl X) F W (.isb a b)) :=
  (pe_cmpR op_isBl ha pe_bl rfl).weak fun σ H Q h => by
    obtain ⟨P, st, hs, h⟩ := h
    simp only [evE] at h
    refine E_bind hs h fun x v P1 H1 _ g1 r1 h1 => ?_
    cases x with
    | bl k =>
      rw [r1.val.bl]
      exact ⟨k, b, rfl, rfl, FinG.at_ g1.ph h1 _ (ResE.of_plain rfl rfl rep_bl)⟩
    | _ => exact h1.elim
theorem sT_isb {cm : Bool} (c : Cxt F W X N sc tn cm lv) {a : IE} {b : Bool} {x : Expr} {j : Nat} {p pos : Pos} (ha : PE X x (tE (gl X) F W a)) : PT X (.Compare x [.Is] [.Constant (.bool b) j p] pos) (tT (gl X) F W (.v (.isb a b))) :=
  (pt_cmpR op_isBl ha pe_bl rfl).weak fun σ H Q h => by
    obtain ⟨P, st, hs, h⟩ := h
    simp only [evT, evE] at h
    have e : (((evE a st).bind fun x => (isbD b x).bind fun k => R.ok (D.bl k)).bind tru) = (evE a st).bind fun x => isbD b x := by
      cases evE a st with
      | ok x => cases x <;> rfl
      | err _ _ => rfl
      | bad => rfl
    rw [e] at h
    refine E_bind hs h fun x v P1 H1 _ g1 r1 h1 => ?_
    cases x with
    | bl k =>
      rw [r1.val.bl]
      exact ⟨k, b, rfl, rfl, _, rfl, FinG.at_ g1.ph h1⟩
    | _ => exact h1.elim

/-! ### a list turned round -/
theorem Reps.rev {G : Glob} {P : Hp} : ∀ {l : List D} {vs : List V}, Reps G P l vs → Reps G P l.reverse vs.reverse
  | [], vs, h => by rw [h.nil_inv]; exact Reps.nil
  | d :: l, vs, h => by
    obtain ⟨v, r, rfl, h1, h2⟩ := h.cons_inv
    rw [List.reverse_cons, List.reverse_cons]
    exact h2.rev.append (Reps.cons h1 Reps.nil)
theorem sE_rev {a : IE} {x : Expr} {k : Nat} {p1 p2 p3 pos : Pos} (ha : PE X x (tE (gl X) F W a)) : PE X (.Subscript x (.Slice none none (some (.UnaryOp .USub (.Constant (.int 1) k p1) p2)) p3) pos) (tE (gl X) F W (.rev a)) :=
  (pe_revM ha).weak fun σ H Q h => by
    obtain ⟨P, st, hs, h⟩ := h
    simp only [evE] at h
    refine E_bind hs h fun x v P1 H1 _ g1 r1 h1 => ?_
    cases x with
    | lst l =>
      obtain ⟨b, vs, rfl, q1, q2⟩ := r1.val.lst g1.ph
      exact .inl ⟨b, vs, rfl, .of q1, fun p hp => h1 P1 _ (Gr.made g1.ph hp) _ (ResE.of_fresh rfl rfl (FreshAt.back g1.hh (FreshAt.laid g1.ph q2.rev hp)))⟩
    | scr l =>
      obtain ⟨b, vs, rfl, q1, q2⟩ := r1.val.scr g1.ph
      exact .inl ⟨b, vs, rfl, q1, fun p hp => h1 P1 _ (Gr.made g1.ph hp) _ (ResE.of_fresh rfl rfl (FreshAt.back g1.hh (FreshAt.laid g1.ph q2.rev hp)))⟩
    | tup l =>
      obtain ⟨b, vs, rfl, _, q1, q2⟩ := r1.val.tup g1.ph
      exact .inr ⟨b, vs, rfl, q1, fun p hp => h1 _ _ (Gr.laid g1.ph hp) _ (ResE.of_plain rfl rfl (Rep.tup_laid q2.rev (g1.ph.free hp)))⟩
    | _ => exact h1.elim
/-! ### len(set(..)) -/
theorem once_mem : ∀ {l : List (List Int)} {x : List Int}, x ∈ onceT l ↔ x ∈ l
  | [], x => Iff.rfl
  | y :: l, x => by
    unfold onceT
    split
    · rename_i hy
      rw [once_mem]
      constructor
      · exact fun h => List.mem_cons_of_mem _ h
      · intro h
        rcases List.mem_cons.mp h with rfl | h
        · exact hy
        · exact h
    · rw [List.mem_cons, once_mem, List.mem_cons]
theorem once_nodup : ∀ (l : List (List Int)), (onceT l).Nodup
  | [] => List.nodup_nil
  | y :: l => by
    unfold onceT
    split
    · exact once_nodup l
    · rename_i hy
      exact List.nodup_cons.mpr ⟨fun h => hy (once_mem.mp h), once_nodup l⟩
theorem once_len {l m : List (List Int)} (h : m.Nodup) (e : ∀ x, x ∈ m ↔ x ∈ l) : m.length = (onceT l).length :=
  ((List.perm_ext_iff_of_nodup h (once_nodup l)).mpr fun x => (e x).trans once_mem.symm).length_eq
/-- the size of a set of tuples -/
def rCountT (K : PySem.W.Frag) (P : Program) (w : World) : List V → Hp → VK → Prop := fun xs H Q => ∃ (b : Addr) (L : List (Addr × List Int)), xs = [V.ref b] ∧ H b = some (SetTO P w b L) ∧ (∀ p ∈ L, SqT K H p.1 (p.2.map V.int)) ∧ ((L.map (·.2)).Nodup → Q (.int L.length) H)
theorem cr_countT {X : Cx} : CallR X (.builtin "len") (rCountT X.K X.prog X.w) := by
  intro pins s σ H xs us Q I r h
  obtain ⟨b, L, rfl, hb, hk, q⟩ := h
  obtain ⟨u, rfl, ru⟩ := vals1 r
  obtain rfl : u = Value.ref b := ru
  obtain ⟨es, ep, t, R⟩ := SetT0.full (I.hok b _ hb).1 fun p hp => I.isT (hk p hp)
  obtain ⟨o, ho, hex, hd⟩ := R.ob
  have hn := R.size
  have hfew := R.few
  exact call_len_set ho hex hd R.fits (by omega) ⟨.int L.length, H, I.tok _, ⟨_, by rw [hn]⟩, q R.nd⟩
theorem reps_rows {G : Glob} {P H : Hp} (s : Same P H) : ∀ {ts : List (List Int)} {vs : List V}, Reps G P (ts.map fun t => D.tup (t.map D.int)) vs → ∃ ks : List (Addr × List Int), vs = ks.map (fun p => V.ref p.1) ∧ ks.map (·.2) = ts ∧ ∀ p ∈ ks, SqT G.K H p.1 (p.2.map V.int)
  | [], vs, h => ⟨[], by rw [h.nil_inv]; rfl, rfl, fun _ h => by cases h⟩
  | t :: ts, vs, h => by
    obtain ⟨v, r, rfl, h1, h2⟩ := Reps.cons_inv (d := .tup (t.map D.int)) (ds := ts.map fun t => D.tup (t.map D.int)) h
    obtain ⟨ks, e1, e2, e3⟩ := reps_rows s h2
    simp only [Rep] at h1
    obtain ⟨a, vs', rfl, q1, q2⟩ := h1
    obtain rfl := reps_ints q2
    refine ⟨(a, t) :: ks, by rw [List.map_cons, ← e1], by rw [List.map_cons, e2], fun p hp => ?_⟩
    rcases List.mem_cons.mp hp with rfl | hp
    · exact Same.tup s (.inl (.inl q1))
    · exact e3 p hp
/-- what the reading asks -/
theorem count_go {σ : L2.St} {P1 H1 : Hp} {H : Hp} {a : IE} {A : Addr} {l : List D} {vs : List V} {ts : List (List Int)} {Q : VK} (g : Same P1 H1) (hq : SqL X.K H1 A vs ∨ SqT X.K H1 A vs) (hr : Reps (gl X) P1 l vs) (ht : asTups l = some ts) (hl : ts.length < 64)
    (h1 : FinG (gl X) W σ P1 H1 (.ok (.int (onceT ts).length)) (fun d P' H' => ∀ v, ResE (gl X) (.nset a) H P' H' d v → Q v H')) : tCB (rCountT X.K X.prog X.w) (tCons (fun _ H' R => rSetOfV X.K X.prog X.w [.ref A] H' R) tNil) σ H1 Q := by
  obtain rfl := asTups_map ht
  obtain ⟨ks, rfl, rfl, hk⟩ := reps_rows (G := gl X) g hr
  show rSetOfV X.K X.prog X.w [.ref A] H1 fun v H' => rCountT X.K X.prog X.w [v] H' Q
  refine ⟨A, ks, rfl, hq, hk, by simpa using hl, fun b L hb sub cov => ⟨b, L, rfl, upd_same, fun p hp => ?_, fun nd => ?_⟩⟩
  · exact Same.tup (same_new hb) (hk p (sub p hp))
  · have e : L.length = (onceT (ks.map (·.2))).length := by
      rw [← once_len nd fun x => ?_, List.length_map]
      constructor
      · intro h
        obtain ⟨p, hp, rfl⟩ := List.mem_map.mp h
        exact List.mem_map.mpr ⟨p, sub p hp, rfl⟩
      · intro h
        obtain ⟨p, hp, rfl⟩ := List.mem_map.mp h
        exact cov p hp
    rw [e]
    exact h1 P1 _ (Gr.made g hb) _ (ResE.of_plain rfl rfl rep_int)
theorem nset_cases {l : List D} : (∃ ns, asInts l = some ns ∧ nsetL l = if ns.length < 4000 then .ok (.int (onceJ ns).length) else .bad) ∨ (∃ ts, asInts l = none ∧ asTups l = some ts ∧ nsetL l = if ts.length < 64 then .ok (.int (onceT ts).length) else .bad) ∨ nsetL l = .bad := by
  unfold nsetL
  cases h1 : asInts l with
  | some ns => exact .inl ⟨ns, rfl, rfl⟩
  | none =>
    cases h2 : asTups l with
    | some ts => exact .inr (.inl ⟨ts, rfl, rfl, rfl⟩)
    | none => exact .inr (.inr rfl)
def seqOf : D → Option (List D)
  | .lst l => some l
  | .scr l => some l
  | _ => none
theorem nsetD_seq {d : D} : (∃ l, seqOf d = some l ∧ nsetD d = nsetL l) ∨ (∃ l, d = .tup l ∧ nsetD d = nsetT l) ∨ nsetD d = .bad := by
  cases d <;> first | exact .inl ⟨_, rfl, rfl⟩ | exact .inr (.inl ⟨_, rfl, rfl⟩) | exact .inr (.inr rfl)
theorem seq_rep {G : Glob} {P H : Hp} {d : D} {l : List D} {v : V} (s : Same P H) (e : seqOf d = some l) (r : Rep G P d v) : ∃ A vs, v = .ref A ∧ SqL G.K H A vs ∧ Reps G P l vs := by
  cases d with
  | lst l' =>
    cases e
    simp only [Rep] at r
    obtain ⟨b, vs, rfl, q1, q2⟩ := r
    exact ⟨b, vs, rfl, .of (s _ _ q1), q2⟩
  | scr l' =>
    cases e
    simp only [Rep] at r
    obtain ⟨b, vs, rfl, q1, q2⟩ := r
    exact ⟨b, vs, rfl, Same.seq s q1, q2⟩
  | _ => cases e
theorem pe_or {X : Cx} {e : Expr} {t t' : TE} (h : PE X e t) (h' : PE X e t') : PE X e (fun σ H Q => t σ H Q ∨ t' σ H Q) := ⟨fun pins s σ H Q I q => by
  rcases q with q | q
  · exact h.run pins s σ H Q I q
  · exact h'.run pins s σ H Q I q⟩
theorem firstMet_all (ns : List Int) : PyProof.Rows.firstMet (fun i => ns.getD i 0) ns.length = onceJ ns := by
  have e : (List.range ns.length).map (fun i => ns.getD i 0) = ns := by
    apply List.ext_getElem
    · rw [List.length_map, List.length_range]
    · intro i h1 h2
      rw [List.getElem_map, List.getElem_range, List.getD_eq_getElem?_getD, List.getElem?_eq_getElem h2]
      rfl
  unfold PyProof.Rows.firstMet
  rw [e]
  rfl
theorem once_le (ns : List Int) : (onceJ ns).length ≤ ns.length := by
  rw [← firstMet_all]
  exact PyProof.Rows.firstMet_length_le _ _
def tLenSetM (K : PySem.W.Frag) (ta : TE) : TE := fun σ H Q => ta σ H fun x H1 => ∃ (l : Addr) (ns : List Int), x = V.ref l ∧ SqL K H1 l (ns.map V.int) ∧ ns.length < 4000 ∧ Q (.int (onceJ ns).length) H1
theorem pe_lenSetM {X : Cx} {a : Expr} {ta : TE} {p p2 q pos : Pos} (hc : X.calm = true) (hg : Gl X "len") (hm : X.mg "len" = none) (hg2 : Gl X "set") (hm2 : X.mg "set" = none) (ha : PE X a ta)
    (na : starEach [a] X.env = (false, eval a X.env) :: starEach [] X.env := by rfl) : PE X (.Call (.Name "len" p) [.Call (.Name "set" p2) [a] [] q] [] pos) (tLenSetM X.K ta) := by
  refine ⟨fun pins s σ H Q I h => ?_⟩
  refine Call_ (ld_blt I hg hm PySem.boot_len ?_)
  refine PyProof.Rows.callWith_builtin1 (PyProof.Rows.args_cons ?_ rfl) rfl rfl
  refine Call_ (ld_blt I hg2 hm2 PyProof.Rows.boot_set ?_)
  refine PyProof.Rows.callWith_type1 (PyProof.Rows.args_cons (thn (ha.run pins s σ H _ I h) fun v s1 ⟨x, H1, I1, r1, q1⟩ => PyProof.Rows.args_nil ?_) na) na rfl
  obtain ⟨l, ns, rfl, hq, h1, q1⟩ := q1
  cases r1
  obtain ⟨its, r, pl, hz⟩ := I1.list hq
  have hl : its.toArray.size = ns.length := by rw [List.size_toArray, ← r.length, List.length_map]
  have hle := once_le ns
  refine PySem.call_set_list (I1.ok.hd hc) pl.isList (ns := ns) (by simpa using r.ints) (by unfold scanBound; omega) fun h' tk hS hk => ?_
  rw [hl, firstMet_all] at hS
  refine PyProof.Rows.args_nil ?_
  obtain ⟨o, es, ep, t, ho, hex, hd, _, _, _, hf, hn⟩ := hS
  have I2 : Inv X pins σ H1 { s1 with heap := h', toks := tk } := I1.kept fun b o e => hk b o (Heap.lt_size e) e
  refine call_len_set ho hex hd hf (by rw [hn] <;> omega) ⟨.int (onceJ ns).length, H1, I2.tok _, ⟨_, by rw [hn]⟩, q1⟩
theorem sE_nset (c : Cxt F W X N sc tn true lv) {a : IE} {x : Expr} {p p2 q pos : Pos} (hg : glB sc "len" = true) (hg2 : glB sc "set" = true) (hn : notStar x = true) (hb : isB a = false) (ha : PE X x (tE (gl X) F W a)) :
    PE X (.Call (.Name "len" p) [.Call (.Name "set" p2) [x] [] q] [] pos) (tE (gl X) F W (.nset a)) := by
  have hgl : Gl X "len" := gl_of (by rw [c.hs]; exact hg)
  have hgs : Gl X "set" := gl_of (by rw [c.hs]; exact hg2)
  have h1 := pe_lenSetM (p := p) (p2 := p2) (q := q) (pos := pos) (c.calm rfl) hgl (c.bi _ (by decide)) hgs (c.bi _ (by decide)) ha (star_ok hn)
  have hS : PE X (.Call (.Name "set" p2) [x] [] q) (tCB (rSetOfV X.K X.prog X.w) (tCons (tE (gl X) F W a) tNil)) := pe_callTy (cr_setOfV (c.calm rfl) (by have := c.un; omega)) hgs (c.bi _ (by decide)) PyProof.Rows.boot_set (pa_cons ha pa_nil (star_ok hn)) (by decide) (by decide) (star_ok hn) rfl
  have h2 : PE X (.Call (.Name "len" p) [.Call (.Name "set" p2) [x] [] q] [] pos) (tCB (rCountT X.K X.prog X.w) (tCons (tCB (rSetOfV X.K X.prog X.w) (tCons (tE (gl X) F W a) tNil)) tNil)) := pe_callB cr_countT hgl (c.bi _ (by decide)) PySem.boot_len (pa_cons hS pa_nil rfl) (by decide) (by decide) rfl rfl
  refine (pe_or h1 h2).weak fun σ H Q h => ?_
  obtain ⟨P, st, hs, h⟩ := h
  simp only [evE] at h
  have bad : ∀ {Q' : VK}, (evE a st).bind nsetD = .bad → tE (gl X) F W a σ H Q' := fun e => by rw [e] at h; exact h.elim
  cases hd : evE a st with
  | ok d =>
    have hh : (evE a st).bind nsetD = nsetD d := by rw [hd]; rfl
    rcases nsetD_seq (d := d) with ⟨l, hl, en⟩ | ⟨l, rfl, en⟩ | en
    · rcases nset_cases (l := l) with ⟨ns, e1, e2⟩ | ⟨ts, e0, e1, e2⟩ | e2
      · refine .inl ?_
        refine E_bindS hb hs h fun d' v P1 H1 ed g1 r1 h1 => ?_
        obtain rfl : d = d' := by rw [hd] at ed; cases ed; rfl
        rw [en, e2] at h1
        split at h1
        · rename_i hc
          obtain ⟨A, vs, rfl, q1, q2⟩ := seq_rep g1.ph hl r1
          obtain rfl := asInts_map e1
          obtain rfl := reps_ints q2
          exact ⟨A, ns, rfl, q1, hc, FinG.at_ g1.ph h1 _ (ResE.of_plain rfl rfl rep_int)⟩
        · exact h1.elim
      · refine .inr ?_
        show tE (gl X) F W a σ H fun v H' => rSetOfV X.K X.prog X.w [v] H' fun v' H'' => rCountT X.K X.prog X.w [v'] H'' Q
        refine E_bindS hb hs h fun d' v P1 H1 ed g1 r1 h1 => ?_
        obtain rfl : d = d' := by rw [hd] at ed; cases ed; rfl
        rw [en, e2] at h1
        split at h1
        · rename_i hc
          obtain ⟨A, vs, rfl, q1, q2⟩ := seq_rep g1.ph hl r1
          exact count_go (σ := σ) g1.ph (.inl q1) q2 e1 hc h1
        · exact h1.elim
      · exact .inl (E_bindS hb hs h fun d' v P1 H1 ed g1 r1 h1 => by
          obtain rfl : d = d' := by rw [hd] at ed; cases ed; rfl
          rw [en, e2] at h1
          exact h1.elim)
    · refine .inr ?_
      show tE (gl X) F W a σ H fun v H' => rSetOfV X.K X.prog X.w [v] H' fun v' H'' => rCountT X.K X.prog X.w [v'] H'' Q
      refine E_bindS hb hs h fun d' v P1 H1 ed g1 r1 h1 => ?_
      obtain rfl : M.D.tup l = d' := by rw [hd] at ed; cases ed; rfl
      rw [en] at h1
      unfold nsetT at h1
      cases e1 : asTups l with
      | none => rw [e1] at h1; exact h1.elim
      | some ts =>
        rw [e1] at h1
        simp only at h1
        split at h1
        · rename_i hc
          simp only [Rep] at r1
          obtain ⟨A, vs, rfl, q1, q2⟩ := r1
          exact count_go (σ := σ) g1.ph (.inr (.inl (.inl (g1.ph _ _ q1)))) q2 e1 hc h1
        · exact h1.elim
    · exact .inl (E_bindS hb hs h fun d' v P1 H1 ed g1 r1 h1 => by
        obtain rfl : d = d' := by rw [hd] at ed; cases ed; rfl
        rw [en] at h1
        exact h1.elim)
  | err c' p' => exact .inl (E_bindS hb hs h fun d' v P1 H1 ed g1 r1 h1 => by rw [hd] at ed; cases ed)
  | bad => exact .inl (E_bindS hb hs h fun d' v P1 H1 ed g1 r1 h1 => by rw [hd] at ed; cases ed)
end
end M
set_option Elab.async false
set_option linter.all false
set_option maxRecDepth 100000
set_option maxHeartbeats 2000000
/-! M, part Z: exceptions held as values: made, asked for their class and for their field. -/
namespace M
open PySem L2 PySem.Spec PyProof.Rows
/-- an exception object with a dict -/
def ExV (cls : Value) (dx : Option Addr) (a : Addr) : HO := .ext fun h => ∃ (oe : Obj) (vs : Array Value), h.get? a = some oe ∧ Zc cls dx oe ∧ oe.data = .fields vs
theorem exV_ok {P : Program} {w : World} {H : Hp} {h : Heap} {a : Addr} {cls : Value} {dx : Option Addr} {oe : Obj} {vs : Array Value} (e : h.get? a = some oe) (z : Zc cls dx oe) (d : oe.data = .fields vs) : ObjOk P w H h a (ExV cls dx a) :=
  ⟨⟨oe, vs, e, z, d⟩, ⟨oe, e⟩, fun _ _ ⟨o, v, q, r⟩ k => ⟨o, v, k o q, r⟩⟩
theorem exV_is {cls : Value} {dx : Option Addr} {a : Addr} : IsX (ExV cls dx a) cls dx a := fun _ _ _ _ h => h.1
theorem exO_is {cls : Value} {a : Addr} : IsX (ExO cls a) cls none a := fun _ _ _ _ h => by
  obtain ⟨oe, vs, e, z, d, _⟩ := h.1
  exact ⟨oe, vs, e, z, d⟩
structure V0Ok (G : Glob) (c : Str) : Prop where
  ex : ∃ C, G.mg c = some (.ref C) ∧ PySem.W.excIn G.K C [.type "ValueError", .type "Exception", .type "BaseException", .type "object"] "ValueError.__new__" = true ∧ PySem.W.keepIn G.K (.ref C) = true
structure V1Ok (G : Glob) (lv : Nat) (c f : Str) : Prop where
  go : ∀ {X : Cx} {te : TE} {e : Expr} {p pos : Pos}, gl X = G → X.calm = true → Room lv X.A → Gl X c → (c == ("__debug__" : Str)) = false → notStar e = true → X.mg "super" = none → PE X e te →
  ∃ C, G.mg c = some (.ref C) ∧ PE X (.Call (.Name c p) [e] [] pos) (fun σ H Q => te σ H fun y H1 => ∀ a d, H1 d = none → (upd H1 d (.xd [(f, y)])) a = none → Q (.ref a) (upd (upd H1 d (.xd [(f, y)])) a (ExV (.ref C) (some d) a)))
/-- a class that isinstance asks for -/
def AskV (G : Glob) (t : Str) (tv : Value) : Prop := (∃ T, tv = .ref T ∧ G.mg t = some (.ref T)) ∨ (∃ n : String, tv = .type n ∧ G.mg t = none ∧ bootBuiltins t = some (.type n) ∧ t ≠ "__name__")
structure VisOk (G : Glob) (t : Str) (ks : List (Str × Bool)) : Prop where
  ex : ∃ tv, AskV G t tv ∧ ∀ c b, ks.lookup c = some b → ∃ C, G.mg c = some (.ref C) ∧ ExcC G.K C ∧ PySem.W.kitOne G.K (.ref C) tv = some b
structure VfOk (G : Glob) (c f : Str) : Prop where
  ex : ∃ C, G.mg c = some (.ref C) ∧ XfC G.K C ∧ PySem.W.findIn G.K (.ref C) f = some none
section
variable {X : Cx} {F : Fx} {W : WX} {N : List Str} {sc : Scope} {tn : List (Str × NameKind)} {lv : Nat}
/-! ### made -/
theorem sE_mk0 (c : Cxt F W X N sc tn true lv) {x : Str} {a : IE} {e : Expr} {p pos : Pos} (hx : V0Ok (gl X) x) (hg : glB sc x = true) (hd : (x == ("__debug__" : Str)) = false) (hn : notStar e = true) (ha : PE X e (tE (gl X) F W a)) :
    PE X (.Call (.Name x p) [e] [] pos) (tE (gl X) F W (.mk0 x a)) := by
  obtain ⟨C, hm, hq, hk⟩ := hx.ex
  refine (pe_exc1 PySem.F.excBase_ValueError hq hm hk (gl_of (by rw [c.hs]; exact hg)) ha (star_ok hn) hd).weak fun σ H Q h => ?_
  obtain ⟨P, st, hs, h⟩ := h
  simp only [evE] at h
  refine E_bind hs h fun d v P1 H1 _ g1 r1 h1 b hb => ?_
  refine h1 _ _ (Gr.laid g1.ph hb) _ (ResE.of_plain rfl rfl ?_)
  simp only [Rep]
  exact ⟨b, C, none, _, [], rfl, hm, upd_same, exO_is, Reps.nil, .inl ⟨rfl, rfl⟩⟩
theorem sE_mk1 (c : Cxt F W X N sc tn true lv) {x f : Str} {a : IE} {e : Expr} {p pos : Pos} (hx : V1Ok (gl X) lv x f) (hg : glB sc x = true) (hd : (x == ("__debug__" : Str)) = false) (hn : notStar e = true) (hb : isB a = false) (ha : PE X e (tE (gl X) F W a)) :
    PE X (.Call (.Name x p) [e] [] pos) (tE (gl X) F W (.mk1 x f a)) := by
  obtain ⟨C, hm, hpe⟩ := hx.go (p := p) (pos := pos) rfl (c.calm rfl) (c.room rfl) (gl_of (by rw [c.hs]; exact hg)) hd hn (c.bi _ (by decide)) ha
  refine hpe.weak fun σ H Q h => ?_
  obtain ⟨P, st, hs, h⟩ := h
  simp only [evE] at h
  refine E_bindS hb hs h fun d v P1 H1 _ g1 r1 h1 b dd hdd hbb => ?_
  have g2 : Gr P1 H1 (upd P1 dd (.xd [(f, v)])) (upd H1 dd (.xd [(f, v)])) := Gr.laid g1.ph hdd
  have g3 := Gr.laid (o := ExV (.ref C) (some dd) b) g2.ph hbb
  refine h1 _ _ (g2.trans g3) _ (ResE.of_plain rfl rfl ?_)
  simp only [Rep]
  refine ⟨b, C, some dd, _, [v], rfl, hm, upd_same, exV_is, Reps.cons (r1.mono (g2.pp.trans g3.pp)) Reps.nil, .inr ⟨v, dd, rfl, rfl, g3.pp _ _ upd_same⟩⟩
/-! ### asked -/
theorem instAt_of {h : Heap} {a C : Addr} {oe : Obj} {vs : Array Value} {od : Option Obj} (e : h.get? a = some oe) (hc : oe.cls = .ref C) (hd : oe.data = .fields vs) (hq : match oe.dict, od with
    | some dx, some o => h.get? dx = some o
    | none, none => True
    | _, _ => False) : PySem.W.InstAt h a oe C od := ⟨e, hc, by unfold PySem.W.notCls; rw [hd], hq⟩
/-- isinstance(x, c), x an exception held as a value -/
def rIsV (G : Glob) : List V → Hp → VK → Prop := fun xs H Q => ∃ (a C : Addr) (dx : Option Addr) (o : HO) (c : V) (tv : Value) (b : Bool), xs = [.ref a, c] ∧ H a = some o ∧ IsX o (.ref C) dx a ∧ (∀ dd, dx = some dd → ∃ fs, H dd = some (.xd fs)) ∧ (∀ u, RelV c u → u = tv) ∧ ExcC G.K C ∧ PySem.W.kitOne G.K (.ref C) tv = some b ∧ Q (.bl b) H
theorem cr_isV {X : Cx} : CallR X (.builtin "isinstance") (rIsV (gl X)) := by
  intro pins s σ H xs us Q I r h
  obtain ⟨a, C, dx, o, c, tv, b, rfl, ha, hx, hdx, hcv, hE, hk, q⟩ := h
  obtain ⟨u1, u2, rfl, r1, r2⟩ := vals2 r
  obtain rfl : u1 = Value.ref a := r1
  obtain rfl := hcv _ r2
  obtain ⟨oe, vs, e1, ⟨e2, e3⟩, e4⟩ := hx _ _ _ _ (I.hok a _ ha)
  have J : ∃ od, PySem.W.InstAt s.heap a oe C od := by
    cases dx with
    | none => exact ⟨none, instAt_of e1 e2 e4 (by rw [e3]; exact True.intro)⟩
    | some dd =>
      obtain ⟨fs, hf⟩ := hdx dd rfl
      obtain ⟨mA, hns, _⟩ := (show ObjOk X.prog X.w H s.heap dd (.xd fs) from I.hok dd _ hf)
      obtain ⟨od, ho, _⟩ := lookIn_ns hns
      exact ⟨some od, instAt_of e1 e2 e4 (by rw [e3]; exact ho)⟩
  obtain ⟨od, J⟩ := J
  have hc : (PySem.W.clsIn X.K C).isSome = true := by
    have z := hE.hd
    unfold PySem.W.hasDictIn at z
    cases q : PySem.W.clsIn (gl X).K C with
    | none => rw [q] at z; cases z
    | some _ => rfl
  exact PySem.W.kia_one (PySem.W.kitx_exc (ox := oe) (od := od) hc hE.hg hE.hk hE.hs hE.ha hE.hn hE.ht hE.hm) I.kIn J hk (fun z => nomatch z) fun tk => ⟨.bl b, H, I.tok tk, rfl, q⟩
theorem pe_ask (c : Cxt F W X N sc tn true lv) {t : Str} {tv : Value} {p : Pos} (h : AskV (gl X) t tv) (hg : glB sc t = true) (hd : (t == ("__debug__" : Str)) = false) : ∃ v, PE X (.Name t p) (tC v) ∧ ∀ u, RelV v u → u = tv := by
  rcases h with ⟨T, rfl, hm⟩ | ⟨n, rfl, hm, hb, hn⟩
  · exact ⟨.ref T, pe_glob (gl_of (by rw [c.hs]; exact hg)) hm rfl hd, fun u r => r⟩
  · exact ⟨.ty n, pe_bltn (gl_of (by rw [c.hs]; exact hg)) hm hb rfl hn hd, fun u r => r⟩
theorem sE_isx (c : Cxt F W X N sc tn true lv) {t : Str} {ks : List (Str × Bool)} {a : IE} {x : Expr} {p p2 pos : Pos} (ht : VisOk (gl X) t ks) (hg : glB sc "isinstance" = true) (hg2 : glB sc t = true) (hd : (t == ("__debug__" : Str)) = false) (hn : notStar x = true) (hb : isB a = false) (ha : PE X x (tE (gl X) F W a)) :
    PE X (.Call (.Name "isinstance" p) [x, .Name t p2] [] pos) (tE (gl X) F W (.isx a t ks)) := by
  obtain ⟨tv, hv, hk⟩ := ht.ex
  obtain ⟨v, hT, hu⟩ := pe_ask (p := p2) c hv hg2 hd
  have hA : PA X [x, .Name t p2] (tCons (tE (gl X) F W a) (tCons (tC v) tNil)) := pa_cons ha (pa_cons hT pa_nil rfl) (star_ok hn)
  refine (pe_callB cr_isV (gl_of (by rw [c.hs]; exact hg)) (c.bi _ (by decide)) PyProof.Rows.boot_isinstance hA (by decide) (by decide) (star_ok hn) rfl).weak fun σ H Q h => ?_
  obtain ⟨P, st, hs, h⟩ := h
  simp only [evE] at h
  refine E_bindS hb hs h fun d u P1 H1 _ g1 r1 h1 => ?_
  show rIsV (gl X) [u, v] H1 Q
  cases d with
  | exv cc f ds =>
    have h1 : FinG (gl X) W σ P1 H1 (match ks.lookup cc with
      | some b => R.ok (D.bl b)
      | none => .bad) (fun d P' H' => ∀ v, ResE (gl X) (.isx a t ks) H P' H' d v → Q v H') := h1
    cases q : ks.lookup cc with
    | none => rw [q] at h1; exact h1.elim
    | some b =>
      rw [q] at h1
      simp only [Rep] at r1
      obtain ⟨A, C, dx, o, vs, rfl, m1, m2, m3, m4, m5⟩ := r1
      obtain ⟨C', n1, n2, n3⟩ := hk cc b q
      obtain rfl : C' = C := by have z := n1.symm.trans m1; cases z; rfl
      refine ⟨A, C', dx, o, v, tv, b, rfl, g1.ph _ _ m2, m3, fun dd e => ?_, hu, n2, n3, FinG.at_ g1.ph h1 _ (ResE.of_plain rfl rfl rep_bl)⟩
      rcases m5 with ⟨_, m5⟩ | ⟨y, d2, _, k1, k2⟩
      · rw [m5] at e; cases e
      · rw [k1] at e; cases e; exact ⟨_, g1.ph _ _ k2⟩
  | _ => exact h1.elim
/-! ### the field -/
/-- x.f, x an exception held as a value -/
def tXv (G : Glob) (f : Str) (te : TE) : TE := fun σ H Q => te σ H fun x H1 => ∃ (a C dd : Addr) (o : HO) (y : V), x = .ref a ∧ H1 a = some o ∧ IsX o (.ref C) (some dd) a ∧ H1 dd = some (.xd [(f, y)]) ∧ XfC G.K C ∧ PySem.W.findIn G.K (.ref C) f = some none ∧ Q y H1
theorem pe_xv {X : Cx} {e : Expr} {te : TE} {pos : Pos} {f : Str} (he : PE X e te) (hb : attributeBase e f X.env (eval e X.env) = eval e X.env) : PE X (.Attribute e f pos) (tXv (gl X) f te) := by
  refine ⟨fun pins s σ H Q I h => ?_⟩
  refine attr_of hb (thn (he.run pins s σ H _ I h) fun u s1 ⟨x, H1, I1, rx, a, C, dd, o, y, ex, ha, hx, hd, hT, hno, q⟩ => ?_)
  subst ex
  obtain rfl : u = Value.ref a := rx
  obtain ⟨oe, vs, e1, ⟨e2, e3⟩, e4⟩ := hx _ _ _ _ (I1.hok a _ ha)
  obtain ⟨mA, hns, hr⟩ := (show ObjOk X.prog X.w H1 s1.heap dd (.xd [(f, y)]) from I1.hok dd _ hd)
  obtain ⟨od, ho, hl⟩ := lookIn_ns hns
  have hlk : ([(f, y)] : List (Str × V)).lookup f = some y := by
    rw [List.lookup_cons, show (f == f) = true from beq_self_eq_true f]
  obtain ⟨u, hu, ru⟩ := RelO.some_of (v := y) (o := mA f) (by rw [← hlk]; exact hr f)
  exact HandSPX.exc_get I1.kIn (instAt_of e1 e2 e4 (by rw [e3]; exact ho)) hT.ga hT.gg hT.exC (PySem.W.findObj_own hT.hdC hno rfl (by rw [hl, hu])) (handed_of ru) ⟨y, H1, I1.tok _, ru, q⟩
theorem sE_xfld (c : Cxt F W X N sc tn true lv) {cl f : Str} {a : IE} {e : Expr} {pos : Pos} (hf : VfOk (gl X) cl f) (hn : notCall0 e = true) (hb : isB a = false) (ha : PE X e (tE (gl X) F W a)) :
    PE X (.Attribute e f pos) (tE (gl X) F W (.xfld cl f a)) := by
  obtain ⟨C, hm, hT, hno⟩ := hf.ex
  refine (pe_xv ha (base_ok hn)).weak fun σ H Q h => ?_
  obtain ⟨P, st, hs, h⟩ := h
  simp only [evE] at h
  refine E_bindS hb hs h fun d u P1 H1 _ g1 r1 h1 => ?_
  cases d with
  | exv cc g ds =>
    have h1 : FinG (gl X) W σ P1 H1 (if cc = cl ∧ g = f then (match ds with
      | [d] => R.ok d
      | _ => .bad) else .bad) (fun d P' H' => ∀ v, ResE (gl X) (.xfld cl f a) H P' H' d v → Q v H') := h1
    split at h1
    · rename_i hc
      obtain ⟨rfl, rfl⟩ := hc
      simp only [Rep] at r1
      obtain ⟨A, C', dx, o, vs, rfl, m1, m2, m3, m4, m5⟩ := r1
      obtain rfl : C = C' := by have z := hm.symm.trans m1; cases z; rfl
      match ds, m4, h1 with
      | [], _, h1 => exact h1.elim
      | _ :: _ :: _, _, h1 => exact h1.elim
      | [d], m4, h1 =>
        obtain ⟨y, r, rfl, k1, k2⟩ := m4.cons_inv
        obtain rfl := k2.nil_inv
        rcases m5 with ⟨z, _⟩ | ⟨y', dd, z, hdx, hdd⟩
        · cases z
        · cases z
          rw [hdx] at m3
          exact ⟨A, C, dd, o, y, rfl, g1.ph _ _ m2, m3, g1.ph _ _ hdd, hT, hno, FinG.at_ g1.ph h1 _ (ResE.of_plain rfl (by cases d <;> rfl) k1)⟩
    · exact h1.elim
  | _ => exact h1.elim
end
end M
set_option Elab.async false
set_option linter.all false
set_option maxRecDepth 100000
set_option maxHeartbeats 2000000
/-! M: a def as a value, and its call by a local name. -/
namespace M
open PySem L2 PySem.Spec PyProof.Rows
/-- a call of a local name that holds a def; what leaves it may depend on the slots -/
def tHeld (i : Nat) (f : Addr) (sp : Sp) (E : L2.St → XK) (t : TA) : TE := fun σ H Q => σ[i]? = some (some (.ref f)) ∧ t σ H fun vs H1 => sp vs H1 Q (E σ)
theorem pe_held {X : Cx} {CX : CXT} {k i : Nat} {f : Addr} {fd : FuncData} {ps : List Str} {sp : Sp} {E : L2.St → XK} {x : Str} {p pos : Pos} {e : Expr} {es : List Expr} {t : TA} (F : FnOk X.prog X.w X.K X.mg X.base CX k f fd ps sp) (hr : Room k X.A) (hN : X.N[i]? = some x) (hv : Vis X.env.scope x)
    (hk : PySem.W.keepIn X.K (.ref f) = true) (hb : Binds X.K fd ps []) (hx : ∀ σ, PassesAt CX X σ (E σ)) (ha : PA X (e :: es) t) (hdb : (x == ("__debug__" : Str)) = false) (hcd : (x == ("__classdict__" : Str)) = false)
    (he : starEach (e :: es) X.env = (false, eval e X.env) :: starEach es X.env) (hpl : (backTo pos (starEach es X.env)).any (·.1) = false) : PE X (.Call (.Name x p) (e :: es) [] pos) (tHeld i f sp E t) := ⟨fun pins s σ H Q I h => by
  obtain ⟨at_, run⟩ := h
  have nm := (pe_var (pos := p) hN hv hdb hcd).run pins s σ H (fun v H1 => v = .ref f ∧ H1 = H) I ⟨.ref f, at_, rfl, rfl⟩
  refine wpAny_Call_Name_kw (thn nm fun u s1 ⟨v, H1, J, rv, ev, eH⟩ => ?_)
  subst ev eH
  obtain rfl : u = Value.ref f := rv
  exact PySem.W.callWith_K (h₀ := X.base) J.ok.mod.kin hk (thn (ha.run pos pins s1 σ H1 _ J run) fun us s2 ⟨vs, H2, J2, r2, q2⟩ => ⟨J2.kIn, run_fnS F hr hb (hx σ) J2 r2 q2⟩) he hpl⟩
structure GfnOk (G : Glob) (n : Str) : Prop where
  ex : ∃ f, G.mg n = some (.ref f)
/-- all the defs that a local name may hold -/
structure VcallOk (G : Glob) (lv k : Nat) (ks : List (Str × (List D → R D))) : Prop where
  ex : ∀ n F, ks.lookup n = some F → CallOk G lv n k F
section
variable {X : Cx} {F : Fx} {W : WX} {N : List Str} {sc : Scope} {tn : List (Str × NameKind)} {lv : Nat}
theorem sE_gfn {cm : Bool} (c : Cxt F W X N sc tn cm lv) {x : Str} {p : Pos} (h : GfnOk (gl X) x) (hg : glB sc x = true) (hd : (x == ("__debug__" : Str)) = false) : PE X (.Name x p) (tE (gl X) F W (.gfn x)) := by
  obtain ⟨f, hm⟩ := h.ex
  exact sE_const (pe_glob (v := .ref f) (gl_of (by rw [c.hs]; exact hg)) hm rfl hd) (fun st => rfl) rfl rfl fun P => by simp only [Rep]; exact ⟨f, rfl, hm⟩
theorem sE_callv (c : Cxt F W X N sc tn true lv) {i k : Nat} {x : Str} {ks : List (Str × (List D → R D))} {l : IEs} {e : Expr} {es : List Expr} {p pos : Pos} (hi : N[i]? = some x) (hv : visB sc x = true) (hd : (x == ("__debug__" : Str)) = false) (hc : (x == ("__classdict__" : Str)) = false)
    (hk : VcallOk (gl X) lv k ks) (hl : lenEs l = k) (hn : ∀ y ∈ e :: es, notStar y = true) (ha : PA X (e :: es) (tAs (gl X) F W l)) : PE X (.Call (.Name x p) (e :: es) [] pos) (tE (gl X) F W (.callv i ks l)) := by
  refine ⟨fun pins s σ H Q I h => ?_⟩
  obtain ⟨P, st, hs, h⟩ := h
  simp only [evE] at h
  split at h
  · rename_i d hst
    split at h
    · rename_i Fn hF
      cases d with
      | fn n =>
        obtain ⟨kk, f, fd, ps, hkk, hf, hm, hkeep, hb⟩ := (hk.ex n Fn hF).ex
        obtain ⟨o, h1, v, rfl, r⟩ := hs.at_ hst
        simp only [Rep] at r
        obtain ⟨f', rfl, hm'⟩ := r
        obtain rfl : f' = f := by have z := hm'.symm.trans hm; cases z; rfl
        refine (pe_held hf ((c.room rfl).mono hkk) (by rw [c.hN]; exact hi) (by rw [c.hs]; exact vis_of hv) hkeep hb (fun σ => passAt c.tk σ) ha hd hc (star_ok (hn e List.mem_cons_self)) (plain_ok fun y hy => hn y (List.mem_cons_of_mem _ hy))).run pins s σ H Q I ⟨h1, ?_⟩
        refine A_bind hs h fun ds vs P1 H1 e1 g1 r1 h2 => ?_
        exact ⟨by rw [r1.length, evEs_len e1, hl], P1, ds, g1.ph, r1, h2.asCall.mono fun d P' H' _ k v r => k v (ResE.of_plain rfl rfl r)⟩
      | _ => cases hF
    · exact h.elim
  · exact h.elim
end
end M
set_option Elab.async false
set_option linter.all false
set_option maxRecDepth 100000
set_option maxHeartbeats 2000000
/-! M: a list of one's own is lent to a call. -/
namespace M
open PySem L2 PySem.Spec PyProof.Rows
def isC : IE → Bool
  | .call _ _ _ => true
  | .make _ _ _ => true
  | _ => false
theorem isC_b {a : IE} (h : isC a = true) : isB a = false := by cases a <;> first | rfl | cases h
theorem isC_f {a : IE} (h : isC a = true) (d : D) : frE a d = false := by cases a <;> first | (cases d <;> rfl) | cases h
/-- without what stands at p -/
def off (P : Hp) (p : Addr) : Hp := fun a => if a = p then none else P a
section
variable {G : Glob} {F : Fx} {P H P' H' : Hp} {σ : L2.St} {st : ES} {p : Addr} {vs : List V}
theorem off_ne {a : Addr} (h : a ≠ p) : off P p a = P a := by unfold off; rw [if_neg h]
theorem off_at {a : Addr} {o : HO} (hp : P p = some (.lst vs)) (h : P a = some o) (hn : ∀ us, o ≠ .lst us) : off P p a = some o := by
  by_cases e : a = p
  · subst e; rw [hp] at h; cases h; exact absurd rfl (hn vs)
  · rw [off_ne e]; exact h
theorem off_tup {a : Addr} {xs : List V} (hp : P p = some (.lst vs)) (h : SqT G.K P a xs) : SqT G.K (off P p) a xs := by
  rcases h with (h | ⟨o, h⟩) | h
  · exact .inl (.inl (off_at hp h fun _ e => by cases e))
  · exact .inl (.inr ⟨o, off_at hp h fun _ e => by cases e⟩)
  · exact .inr h
mutual
theorem off_rep (hp : P p = some (.lst vs)) : ∀ (d : D) (v : V), noLst d = true → Rep G P d v → Rep G (off P p) d v
  | .non, _, _, h => by simpa only [Rep] using h
  | .bl _, _, _, h => by simpa only [Rep] using h
  | .int _, _, _, h => by simpa only [Rep] using h
  | .str _, _, _, h => by simpa only [Rep] using h
  | .tup l, v, n, h => by
    simp only [Rep] at h ⊢
    obtain ⟨a, us, rfl, h1, h2⟩ := h
    exact ⟨a, us, rfl, off_at hp h1 (fun _ e => by cases e), off_reps hp l us (by simpa only [noLst] using n) h2⟩
  | .lst l, _, n, _ => by simp [noLst] at n
  | .scr l, _, n, _ => by simp [noLst] at n
  | .dic _ _ _, _, n, _ => by simp [noLst] at n
  | .obj c ns ds, v, n, h => by
    simp only [Rep] at h ⊢
    obtain ⟨a, C, dx, fs, rfl, h1, h2, h3, h4⟩ := h
    exact ⟨a, C, dx, fs, rfl, h1, off_at hp h2 (fun _ e => by cases e), h3, off_reps hp ds _ (by simpa only [noLst] using n) h4⟩
  | .exv _ _ _, _, n, _ => by simp [noLst] at n
  | .fn _, _, _, h => by simpa only [Rep] using h
theorem off_reps (hp : P p = some (.lst vs)) : ∀ (ds : List D) (us : List V), noLsts ds = true → Reps G P ds us → Reps G (off P p) ds us
  | [], _, _, h => by simpa only [Reps] using h
  | d :: ds, us, n, h => by
    simp only [Reps] at h ⊢
    obtain ⟨v, r, rfl, h1, h2⟩ := h
    simp only [noLsts, Bool.and_eq_true] at n
    exact ⟨v, r, rfl, off_rep hp d v n.1 h1, off_reps hp ds r n.2 h2⟩
end
theorem Gr.off {o : HO} (hp : P p = none) (g : Gr (upd P p o) H P' H') : Gr P H (off P' p) H' := by
  refine ⟨fun b x q => ?_, g.hh, fun b x q => ?_, fun a x q => ?_⟩
  · by_cases e : b = p
    · rw [e, hp] at q; cases q
    · rw [off_ne e]; exact g.pp _ _ (by rw [upd_ne e]; exact q)
  · by_cases e : b = p
    · rw [e] at q; unfold M.off at q; rw [if_pos rfl] at q; cases q
    · rw [off_ne e] at q; exact g.ph _ _ q
  · by_cases e : a = p
    · rw [e] at q; unfold M.off at q; rw [if_pos rfl] at q; cases q
    · rw [off_ne e] at q
      rcases g.nw a x q with z | z
      · rw [upd_ne e] at z; exact .inl z
      · exact .inr z
/-- a list of one's own looked at as one that is for good -/
theorem StOk.lent (hs : StOk G F P H σ st) {i : Nat} {l : List D} (hi : st[i]? = some (.own (.lst l))) : ∃ a us, P a = none ∧ StOk G F (upd P a (.lst us)) H σ (st.set i (.val (.lst l))) := by
  obtain ⟨ov, e1, a, rfl, hB, ho⟩ := hs.at_ hi
  obtain ⟨o, k1, k2, k3, k4⟩ := ho.freeze hs.ex rfl
  have ol : ∃ us, o = .lst us := by
    obtain ⟨x, h1, h2⟩ := ho.at_
    rw [k1] at h1; cases h1
    cases o <;> simp only [Cont] at h2
    exact ⟨_, rfl⟩
  obtain ⟨us, rfl⟩ := ol
  have hlen : i < st.length := (List.getElem?_eq_some_iff.mp hi).1
  refine ⟨a, us, ho.no, by rw [List.length_set]; exact hs.len, k3, hs.exB, fun j t ov2 e2 e3 => ?_, fun j k t u b hjk e2 e3 o1 o2 q1 q2 => ?_⟩
  · by_cases hj : i = j
    · subst hj
      rw [List.getElem?_set_self hlen] at e2
      rw [e1] at e3
      cases e2; cases e3
      exact ⟨_, rfl, k4⟩
    · rw [List.getElem?_set_ne hj] at e2
      have old := hs.slot j t ov2 e2 e3
      have nb : ∀ b, ov2 = some (V.ref b) → isOwn t = true → b ≠ a := fun b eb ot z => by
        subst eb z
        exact hs.dist i j _ t b hj hi e2 rfl ot e1 e3
      have own : ∀ b d', ov2 = some (V.ref b) → isOwn t = true → OwnAt G P H b d' → OwnAt G (upd P a (.lst us)) H b d' := fun b d' eb ot h => by
        obtain ⟨x, h1, h2⟩ := h.at_
        exact ⟨by rw [upd_ne (nb b eb ot)]; exact h.no, x, h1, h2.mono k2⟩
      cases t with
      | un => trivial
      | val d => obtain ⟨v, rfl, r⟩ := old; exact ⟨v, rfl, r.mono k2⟩
      | own d =>
        obtain ⟨b, rfl, eb, ob⟩ := old
        exact ⟨b, rfl, eb, own b d rfl rfl ob⟩
      | par d =>
        obtain ⟨b, rfl, e0, eb, ob⟩ := old
        exact ⟨b, rfl, e0, eb, own b d rfl rfl ob⟩
      | exc c f d =>
        obtain ⟨a', cls, dd, v, q1, q2, q3, q4, q5⟩ := old
        exact ⟨a', cls, dd, v, q1, q2, q3, k2 _ _ q4, q5.mono k2⟩
  · by_cases hj : i = j
    · subst hj
      rw [List.getElem?_set_self hlen] at e2
      cases e2; cases o1
    · rw [List.getElem?_set_ne hj] at e2
      by_cases hk : i = k
      · subst hk
        rw [List.getElem?_set_self hlen] at e3
        cases e3; cases o2
      · rw [List.getElem?_set_ne hk] at e3
        exact hs.dist j k t u b hjk e2 e3 o1 o2 q1 q2
end
section
variable {X : Cx} {F : Fx} {W : WX}
theorem sE_lend {i : Nat} {a : IE} {e : Expr} (hc : isC a = true) (ha : PE X e (tE (gl X) F W a)) : PE X e (tE (gl X) F W (.lend i a)) :=
  ha.weak fun σ H Q h => by
    obtain ⟨P, st, hs, h⟩ := h
    simp only [evE] at h
    split at h
    · rename_i l hi
      obtain ⟨p, us, hp, hs2⟩ := hs.lent hi
      refine ⟨_, _, hs2, ?_⟩
      have atp : ∀ {P' H' : Hp}, Gr (upd P p (.lst us)) H P' H' → P' p = some (.lst us) := fun g => g.pp _ _ upd_same
      generalize evE a (st.set i (.val (.lst l))) = r at h
      cases r with
      | ok d =>
        unfold noRes at h
        simp only at h
        split at h
        · rename_i hn
          intro P' H' g v r
          refine h _ H' (g.off hp) v (ResE.of_plain rfl (by cases d <;> rfl) ?_)
          exact off_rep (atp g) d v hn (r.plain (isC_b hc) (isC_f hc d))
        · exact h.elim
      | err c q =>
        intro P' H' cls dx g x
        cases q with
        | none => exact h _ H' cls dx (g.off hp) ⟨x.1, fun f d e => by cases e⟩
        | some fd =>
          obtain ⟨f, d⟩ := fd
          unfold noRes at h
          simp only at h
          split at h
          · rename_i hn
            refine h _ H' cls dx (g.off hp) ⟨x.1, fun f' d' e => ?_⟩
            cases e
            obtain ⟨dd, v, e1, e2, e3⟩ := x.2 f d rfl
            exact ⟨dd, v, e1, off_at (atp g) e2 (fun _ e => by cases e), off_rep (atp g) d v hn e3⟩
          · exact h.elim
      | bad => exact h.elim
    · exact h.elim
end
section
variable {X : Cx} {F : Fx} {W : WX}
/-- a new dict -/
theorem sE_dnew {t : Bool} {pos : Pos} : PE X (.Dict [] [] pos) (tE (gl X) F W (.dnew t)) := by
  cases t with
  | false =>
    exact pe_dnewK.weak fun σ H Q h => by
      obtain ⟨P, st, hs, h⟩ := h
      simp only [evE] at h
      exact fun p hp => h P _ (Gr.made hs.ex hp) _ (ResE.of_fresh rfl rfl ⟨p, rfl, hp, hs.ex.free hp, _, upd_same, by simp only [Cont]; exact ⟨rfl, Reps.nil⟩⟩)
  | true =>
    exact pe_dnewT.weak fun σ H Q h => by
      obtain ⟨P, st, hs, h⟩ := h
      simp only [evE] at h
      exact fun p hp => h P _ (Gr.made hs.ex hp) _ (ResE.of_fresh rfl rfl ⟨p, rfl, hp, hs.ex.free hp, _, upd_same, by simp only [Cont]; exact ⟨rfl, Reps.nil⟩⟩)
end
section
variable {X : Cx} {F : Fx} {W : WX} {N : List Str} {sc : Scope} {tn : List (Str × NameKind)} {cm : Bool} {lv : Nat}
/-- d.get(k, x) -/
theorem sE_dget (c : Cxt F W X N sc tn cm lv) {a k x : IE} {o e f : Expr} {apos pos : Pos} (hb : isB x = false) (ho : PE X o (tE (gl X) F W a)) (he : PE X e (tE (gl X) F W k)) (hf : PE X f (tE (gl X) F W x))
    (hn1 : notStar e = true) (hn2 : notStar f = true) (hc : notCall0 o = true) (hline : (apos.endLine == pos.line) = true) : PE X (.Call (.Attribute o "get" apos) [e, f] [] pos) (tE (gl X) F W (.dget a k x)) := by
  have m : M2 X o "get" apos e f pos := ⟨base_ok hc, by rw [star_ok hn1, star_ok hn2]; rfl, hline, by rw [star_ok hn1, star_ok hn2]; rfl⟩
  refine (pe_dget2 (by have := c.un; omega) ho he hf m).weak fun σ H Q h => ?_
  obtain ⟨P, st, hs, h⟩ := h
  simp only [evE] at h
  refine E_bind hs h fun d v P1 H1 _ g1 r1 h1 => ?_
  cases d with
  | dic t ks vs =>
    simp only at h1
    obtain ⟨p, rfl, hd⟩ := r1.val.isD g1.ph
    refine ⟨p, rfl, hd, E_bind (hs.grow g1) h1 fun y u P2 H2 _ g2 r2 h2 => E_bindS hb ((hs.grow g1).grow g2) h2 fun z w P3 H3 _ g3 r3 h3 => ?_⟩
    split at h3
    · rename_i hk
      obtain ⟨p', oo, e1, g, _, k1, k2⟩ := dget_of g3.ph ((r1.val.grow g2).grow g3) (r2.val.grow g3) hk
      cases e1
      refine ⟨oo, g, FinG.at_ g3.ph h3 _ (ResE.of_plain rfl (by cases (dlook ks vs y).getD z <;> rfl) ?_)⟩
      cases q : dlook ks vs y with
      | none => rw [k2 q]; exact r3
      | some d' =>
        obtain ⟨w', rfl, r⟩ := k1 d' q
        exact r
    · exact h3.elim
  | _ => exact h1.elim
/-- d.values(), for k in d: the dict for good -/
theorem serves_vals {G : Glob} {P : Hp} {a : Addr} {od : Obj} {kvs : List (Key × V)} {ds : List D} (h : P a = some (.frz od (.dK kvs))) (r : Reps G P ds (kvs.map (·.2))) : Serves G (Itd a od kvs) P ds := by
  intro i H' s
  have hl : ds.length = kvs.length := by rw [← r.length, List.length_map]
  refine ⟨fun hi => ⟨s _ _ h, by omega⟩, fun d e => ?_⟩
  obtain ⟨v, e1, r1⟩ := r.get e
  rw [List.getElem?_map, Option.map_eq_some_iff] at e1
  obtain ⟨kv, e2, rfl⟩ := e1
  refine ⟨⟨s _ _ h, (List.getElem?_eq_some_iff.mp e2).1⟩, fun x H2 q P1 s1 s2 => ?_⟩
  obtain ⟨rfl, k, e3⟩ := q
  rw [e2] at e3
  cases e3
  exact ⟨P1, Gr.refl s2, r1.mono s1⟩
theorem serves_keys {G : Glob} {P : Hp} {a : Addr} {od : Obj} {kvs : List (Key × V)} (h : P a = some (.frz od (.dK kvs))) : Serves G (Itk a od kvs) P (kvs.map fun p => keyD p.1) := by
  intro i H' s
  refine ⟨fun hi => ⟨s _ _ h, by rw [List.length_map] at hi; exact hi⟩, fun d e => ?_⟩
  rw [List.getElem?_map, Option.map_eq_some_iff] at e
  obtain ⟨kv, e2, rfl⟩ := e
  refine ⟨⟨s _ _ h, (List.getElem?_eq_some_iff.mp e2).1⟩, fun x H2 q P1 s1 s2 => ?_⟩
  obtain ⟨rfl, k, v, e3, rfl⟩ := q
  rw [e2] at e3
  cases e3
  refine ⟨P1, Gr.refl s2, ?_⟩
  cases k with
  | inl i => simp only [keyD, Rep]; rfl
  | inr y => simp only [keyD, Rep]; rfl
theorem sI_vals {a : IE} {tg o : Expr} {apos cpos : Pos} (hb : isB a = false) (ho : PE X o (tE (gl X) F W a)) (hc : notCall0 o = true) (hline : (apos.endLine == cpos.line) = true) : PI X tg (.Call (.Attribute o "values" apos) [] [] cpos) (tI (gl X) F W (.vals a)) :=
  (pi_values ho (base_ok hc) hline).weak fun σ H R h => by
    obtain ⟨P, st, hs, h⟩ := h
    simp only [evI] at h
    refine E_bindS hb hs h fun x v P1 H1 _ g1 r1 h1 => ?_
    split at h1
    · simp only [Rep] at r1
      obtain ⟨p, od, rfl, ⟨_, kvs, q1, _, q3⟩ | ⟨z, _⟩⟩ := r1
      · exact ⟨p, od, kvs, rfl, g1.ph _ _ q1, FinG.at_ g1.ph h1 _ (serves_vals q1 q3)⟩
      · cases z
    · exact h1.elim
theorem sI_keys {a : IE} {tg o : Expr} (hb : isB a = false) (ho : PE X o (tE (gl X) F W a)) : PI X tg o (tI (gl X) F W (.keys a)) :=
  (pi_keys ho).weak fun σ H R h => by
    obtain ⟨P, st, hs, h⟩ := h
    simp only [evI] at h
    refine E_bindS hb hs h fun x v P1 H1 _ g1 r1 h1 => ?_
    split at h1
    · simp only [Rep] at r1
      obtain ⟨p, od, rfl, ⟨_, kvs, q1, q2, q3⟩ | ⟨z, _⟩⟩ := r1
      · subst q2
        exact ⟨p, od, rfl, .inl ⟨kvs, g1.ph _ _ q1, FinG.at_ g1.ph h1 _ (serves_keys q1)⟩⟩
      · cases z
    · exact h1.elim
end
end M
set_option Elab.async false
set_option linter.all false
set_option maxRecDepth 100000
set_option maxHeartbeats 2000000
/-! M: dicts written with one entry, get with one argument. -/
namespace M
open PySem L2 PySem.Spec PyProof.Rows
/-- {k: v}, k a tuple -/
def tDisT (tk tv : TE) : TE := fun σ H Q => ∀ p, H p = none → tk σ (upd H p (.dT [])) fun x H1 => tv σ H1 fun y H2 => H2 p = some (.dT []) ∧ ∃ (k : List Key) (b : Addr), x = .ref b ∧ H2 b = some (.tup (k.map kV)) ∧ Q (.ref p) (upd H2 p (.dT [(k, y)]))
section
variable {X : Cx}
theorem pe_disT {k v : Expr} {pos : Pos} {tk tv : TE} (hu : X.A.units + 1 < cLine) (hk : PE X k tk) (hv : PE X v tv) : PE X (.Dict [some k] [v] pos) (tDisT tk tv) := by
  refine ⟨fun pins s σ H Q I q => ?_⟩
  have hn := I.hok.fresh (Nat.le_refl s.heap.objs.size)
  have I1 := I.laid (a := s.heap.objs.size) (o := .dT []) (h' := s.heap.push { cls := .type "dict", data := .dict #[] }) (t' := s.toks) (fun _ _ q => Heap.get?_push_of_some _ q) (Nat.le_refl _) (dt_empty s.heap I.big)
  have hz := zip_pairTrees [some k] [v] X.env pos rfl rfl
  have hlen := pairTrees_length [some k] [v] X.env pos rfl rfl
  have h0 : pairTrees [some k] [v] X.env pos ≠ [] := fun z => by rw [z] at hlen; cases hlen
  rw [arm_eval_Dict, hz, dictDisplay_pairs _ h0 (by rw [hlen]; exact (by decide : 1 < 17))]
  refine wpAny_bind (wpAny_standAt (wpAny_bind (wpAny_subDictH (knd := tupleKind (mixKind X.prog X.w)) (Q := fun d s' => wpAny (model X.prog X.w) X.A (pure (Value.ref d)) _ X.xe s') (show X.A.units < cLine by omega) (by rw [hlen]; exact (by decide : 1 ≤ 15)) ?_)))
  refine pairTrees_cons_walk (thn (hk.run pins _ σ _ _ I1 (q _ hn)) fun u s1 ⟨x, H1, I2, rx, q1⟩ => thn (hv.run pins s1 σ H1 _ I2 q1) fun w2 s2 ⟨y, H2, I3, ry, q2⟩ => pairTrees_nil_walk ?_)
  obtain ⟨e, ks, b, rfl, hb, q3⟩ := q2
  obtain rfl : u = Value.ref b := rx
  obtain ⟨z, hd, xs, rel, dd⟩ := dt_of I3.hok e
  cases rel
  refine ⟨[(ks, b, w2)], ⟨rfl, rfl, key_of I3.hok hb, trivial⟩, dd, fun h' tk dd' hs => wpAny_pure ?_⟩
  refine ⟨.ref s.heap.objs.size, upd H2 s.heap.objs.size (.dT [(ks, y)]), ?_, rfl, q3⟩
  obtain ⟨qo, es, ep, hq, h2, h3, h4, _, h5⟩ := dd'
  have rr : KT H2 [(ks, y)] [(ks, b, w2)] := .cons ⟨rfl, hb, ry⟩ .nil
  refine d_write (t' := tk) I3 (by rw [e]; exact True.intro) hs ⟨qo, hq⟩ ⟨by show 1 ≤ sizeLine; decide, hd, _, rr.keeps fun c ys ec => ?_, qo, es, ep, hq, h2, h3, h4, h5⟩
  rw [upd_ne (ne_of ec e (fun z => nomatch z))]
  exact ec
end
theorem ddis_inv {rx ry : R D} {d : D} (h : (rx.bind fun x => ry.bind fun y => if keyOk true x = true then R.ok (D.dic true [x] [y]) else R.bad) = .ok d) : ∃ x y, rx = .ok x ∧ ry = .ok y ∧ keyOk true x = true ∧ d = .dic true [x] [y] := by
  cases rx with
  | ok x =>
    cases ry with
    | ok y =>
      have h : (if keyOk true x = true then R.ok (D.dic true [x] [y]) else R.bad) = .ok d := h
      split at h
      · rename_i hk; cases h; exact ⟨x, y, rfl, rfl, hk, rfl⟩
      · cases h
    | err _ _ => cases h
    | bad => cases h
  | err _ _ => cases h
  | bad => cases h
section
variable {X : Cx} {F : Fx} {W : WX} {N : List Str} {sc : Scope} {tn : List (Str × NameKind)} {cm : Bool} {lv : Nat}
/-- {k: v} -/
theorem sE_ddis (c : Cxt F W X N sc tn cm lv) {a b : IE} {k v : Expr} {pos : Pos} (ha : isB a = false) (hb : isB b = false) (hk : PE X k (tE (gl X) F W a)) (hv : PE X v (tE (gl X) F W b)) : PE X (.Dict [some k] [v] pos) (tE (gl X) F W (.ddis a b)) := by
  refine (pe_disT (by have := c.un; omega) hk hv).weak fun σ H Q h => ?_
  obtain ⟨P, st, hs, h⟩ := h
  simp only [evE] at h
  obtain ⟨d, h1, h3⟩ := noErr_ok h
  obtain ⟨x, y, ex, ey, hk', rfl⟩ := ddis_inv h1
  intro p hp
  have g0 : Gr P H P (upd H p (.dT [])) := Gr.made hs.ex hp
  have hPp : P p = none := hs.ex.free hp
  refine ⟨P, st, hs.grow g0, ?_⟩
  rw [ex]
  intro P1 H1 g1 u r1
  obtain ⟨P1', g1', _, r1'⟩ := r1.store ha g1
  refine ⟨P1', st, (hs.grow g0).grow g1', ?_⟩
  rw [ey]
  intro P2 H2 g2 w r2
  obtain ⟨P2', g2', _, r2'⟩ := r2.store hb g2
  have g02 := (g0.trans g1').trans g2'
  have hH2 : H2 p = some (.dT []) := (g1'.trans g2').hh _ _ upd_same
  have hP2 : P2' p = none := by
    cases q : P2' p with
    | none => rfl
    | some o =>
      rcases (g1'.trans g2').nw p o q with z | z
      · rw [hPp] at z; cases z
      · exact (z.not upd_same (fun _ e => by cases e)).elim
  cases x with
  | tup l =>
    obtain ⟨κ, rfl⟩ := keys_inv (show l.all keyOk.keyOk0 = true from hk')
    have r1'' := r1'.mono g2'.pp
    simp only [Rep] at r1''
    obtain ⟨b', vs, rfl, h4, h5⟩ := r1''
    rw [reps_key h5] at h4
    refine ⟨hH2, κ, b', rfl, g2'.ph _ _ h4, ?_⟩
    refine h3 P2' _ ⟨g02.pp, fun a o q => ?_, fun a o q => ?_, g02.nw⟩ _ (ResE.of_fresh rfl rfl ⟨p, rfl, hp, hP2, _, upd_same, ?_⟩)
    · rw [upd_ne (ne_of_none q hp)]; exact g02.hh _ _ q
    · rw [upd_ne (ne_of_none q hP2)]; exact g02.ph _ _ q
    · simp only [Cont]
      exact ⟨rfl, Reps.cons r2' Reps.nil⟩
  | _ => cases hk'
/-- d.get(k) -/
theorem sE_dget1 (c : Cxt F W X N sc tn cm lv) {a k : IE} {o e : Expr} {apos pos : Pos} (ho : PE X o (tE (gl X) F W a)) (he : PE X e (tE (gl X) F W k))
    (hn1 : notStar e = true) (hc : notCall0 o = true) (hline : (apos.endLine == pos.line) = true) : PE X (.Call (.Attribute o "get" apos) [e] [] pos) (tE (gl X) F W (.dget1 a k)) := by
  have m : M1 X o "get" apos e pos := ⟨base_ok hc, by rw [star_ok hn1]; rfl, hline, by rw [star_ok hn1]; rfl⟩
  refine (pe_dget1 (by have := c.un; omega) ho he m).weak fun σ H Q h => ?_
  obtain ⟨P, st, hs, h⟩ := h
  simp only [evE] at h
  refine E_bind hs h fun d v P1 H1 _ g1 r1 h1 => ?_
  cases d with
  | dic t ks vs =>
    simp only at h1
    obtain ⟨p, rfl, hd⟩ := r1.val.isD g1.ph
    refine ⟨p, rfl, hd, E_bind (hs.grow g1) h1 fun y u P2 H2 _ g2 r2 h2 => ?_⟩
    split at h2
    · rename_i hk
      obtain ⟨p', oo, e1, g, _, k1, k2⟩ := dget_of g2.ph (r1.val.grow g2) r2.val hk
      cases e1
      refine ⟨oo, g, FinG.at_ g2.ph h2 _ (ResE.of_plain rfl (by cases (dlook ks vs y).getD .non <;> rfl) ?_)⟩
      cases q : dlook ks vs y with
      | none => rw [k2 q]; show Rep _ _ D.non _; simp only [Rep]; rfl
      | some d' =>
        obtain ⟨w', rfl, r⟩ := k1 d' q
        exact r
    · exact h2.elim
  | _ => exact h1.elim
end
end M
set_option Elab.async false
set_option linter.all false
set_option maxRecDepth 100000
set_option maxHeartbeats 4000000
/-! M: comprehensions with two clauses, sorted(set(xs)). -/
namespace M
open PySem L2 PySem.Spec PyProof.Rows
/-! ### sorted(set(xs)) -/
theorem mem_onceI {k : Int} : ∀ {l : List Int}, k ∈ onceI l ↔ k ∈ l
  | [] => Iff.rfl
  | x :: r => by
    unfold onceI
    split
    · rename_i h
      rw [mem_onceI, List.mem_cons]
      exact ⟨.inr, fun z => z.elim (fun e => e ▸ h) id⟩
    · rw [List.mem_cons, List.mem_cons, mem_onceI]
theorem nodup_onceI : ∀ {l : List Int}, (onceI l).Nodup
  | [] => List.nodup_nil
  | x :: r => by
    unfold onceI
    split
    · exact nodup_onceI
    · rename_i h
      exact List.nodup_cons.mpr ⟨fun z => h (mem_onceI.mp z), nodup_onceI⟩
/-- ascending lists with the same members -/
theorem rise_uniq : ∀ {l m : List Int}, l.Pairwise (· < ·) → m.Pairwise (· < ·) → (∀ k, k ∈ l ↔ k ∈ m) → l = m
  | [], [], _, _, _ => rfl
  | [], y :: m, _, _, h => by cases (h y).mpr List.mem_cons_self
  | x :: l, [], _, _, h => by cases (h x).mp List.mem_cons_self
  | x :: l, y :: m, h1, h2, h => by
    obtain ⟨a1, a2⟩ := List.pairwise_cons.mp h1
    obtain ⟨b1, b2⟩ := List.pairwise_cons.mp h2
    have e : x = y := by
      rcases List.mem_cons.mp ((h x).mp List.mem_cons_self) with e | e
      · exact e
      rcases List.mem_cons.mp ((h y).mpr List.mem_cons_self) with e2 | e2
      · exact e2.symm
      have := b1 x e
      have := a1 y e2
      omega
    subst e
    rw [rise_uniq a2 b2 fun k => ?_]
    constructor
    · intro hk
      rcases List.mem_cons.mp ((h k).mp (List.mem_cons_of_mem _ hk)) with e | e
      · have := a1 k hk; omega
      · exact e
    · intro hk
      rcases List.mem_cons.mp ((h k).mpr (List.mem_cons_of_mem _ hk)) with e | e
      · have := b1 k hk; omega
      · exact e
theorem sortI_rise {l : List Int} (h : l.Nodup) : (sortI l).Pairwise (· < ·) := by
  have h1 : (sortI l).Pairwise fun a b => decide (a ≤ b) = true := List.pairwise_mergeSort (le := fun (a b : Int) => decide (a ≤ b)) (fun a b c h1 h2 => by simp only [decide_eq_true_eq] at *; omega) (fun a b => by simp only [Bool.or_eq_true, decide_eq_true_eq]; omega) l
  have h2 : (sortI l).Nodup := (List.mergeSort_perm l _).nodup_iff.mpr h
  exact h1.imp₂ (fun a b h1 h2 => by simp only [decide_eq_true_eq] at h1; omega) h2
theorem mem_sortI {k : Int} {l : List Int} : k ∈ sortI l ↔ k ∈ l := (List.mergeSort_perm l _).mem_iff
section
variable {X : Cx} {F : Fx} {W : WX} {N : List Str} {sc : Scope} {tn : List (Str × NameKind)} {lv : Nat}
theorem sE_sset (c : Cxt F W X N sc tn true lv) {a : IE} {x : Expr} {p p2 q pos : Pos} (hg : glB sc "sorted" = true) (hg2 : glB sc "set" = true) (hn : notStar x = true) (hb : isB a = false) (ha : PE X x (tE (gl X) F W a)) :
    PE X (.Call (.Name "sorted" p) [.Call (.Name "set" p2) [x] [] q] [] pos) (tE (gl X) F W (.sset a)) := by
  have hgl : Gl X "sorted" := gl_of (by rw [c.hs]; exact hg)
  have hgs : Gl X "set" := gl_of (by rw [c.hs]; exact hg2)
  have hS : PE X (.Call (.Name "set" p2) [x] [] q) (tCB (rSetI X.K X.w) (tCons (tE (gl X) F W a) tNil)) := pe_callTy (cr_setI (c.calm rfl)) hgs (c.bi _ (by decide)) PyProof.Rows.boot_set (pa_cons ha pa_nil (star_ok hn)) (by decide) (by decide) (star_ok hn) rfl
  have h2 : PE X (.Call (.Name "sorted" p) [.Call (.Name "set" p2) [x] [] q] [] pos) (tCB (rSortedSet X.w) (tCons (tCB (rSetI X.K X.w) (tCons (tE (gl X) F W a) tNil)) tNil)) := pe_callB (cr_sortedSet (c.calm rfl)) hgl (c.bi _ (by decide)) PyProof.Rows.boot_sorted (pa_cons hS pa_nil rfl) (by decide) (by decide +kernel) rfl rfl
  refine h2.weak fun σ H Q h => ?_
  obtain ⟨P, st, hs, h⟩ := h
  simp only [evE] at h
  show tE (gl X) F W a σ H fun v H' => rSetI X.K X.w [v] H' fun v' H'' => rSortedSet X.w [v'] H'' Q
  refine E_bindS hb hs h fun d v P1 H1 ed g1 r1 h1 => ?_
  cases d with
  | lst l =>
    simp only [ssetD] at h1
    split at h1
    · rename_i ns hns
      split at h1
      · rename_i h64
        simp only [Rep] at r1
        obtain ⟨A, vs, rfl, q1, q2⟩ := r1
        obtain rfl := asInts_map hns
        obtain rfl := reps_ints q2
        refine ⟨A, ns, rfl, .of (g1.ph _ _ q1), h64.1, fun b n hB hn => ⟨b, _, n, rfl, upd_same, (by rw [hn (onceI ns) nodup_onceI fun k => mem_onceI]; exact h64.2), fun ms D hpw hmem _ hD => ?_⟩⟩
        have e : ms = sortI (onceI ns) := rise_uniq hpw (sortI_rise nodup_onceI) fun k => by rw [hmem, decide_eq_true_eq, mem_sortI, mem_onceI]
        have ga := Gr.made (o := SetO X.w b (fun k => decide (k ∈ ns)) n) g1.ph hB
        have gb := Gr.made (o := HO.lst (ms.map V.int)) ga.ph hD
        refine h1 P1 _ (ga.trans gb) _ (ResE.of_fresh rfl rfl ⟨D, rfl, Same.free (g1.hh.trans ga.hh) hD, ga.ph.free hD, _, upd_same, ?_⟩)
        rw [← e]
        exact ints_reps _ _ ms
      · exact h1.elim
    · exact h1.elim
  | _ => exact h1.elim
end
/-! ### list(range(n)) -/
section
variable {X : Cx} {F : Fx} {W : WX} {N : List Str} {sc : Scope} {tn : List (Str × NameKind)} {lv : Nat}
theorem sE_lrng (c : Cxt F W X N sc tn true lv) {a : IE} {x : Expr} {p p2 q pos : Pos} (hg : glB sc "list" = true) (hg2 : glB sc "range" = true) (hn : notStar x = true) (hb : isB a = false) (ha : PE X x (tE (gl X) F W a)) :
    PE X (.Call (.Name "list" p) [.Call (.Name "range" p2) [x] [] q] [] pos) (tE (gl X) F W (.lrng a)) := by
  refine (pe_listRg (c.calm rfl) (gl_of (by rw [c.hs]; exact hg)) (c.bi _ (by decide)) (prg_1 (p := p2) (pos := q) (gl_of (by rw [c.hs]; exact hg2)) (c.bi _ (by decide)) ha (star_ok hn))).weak fun σ H Q h => ?_
  obtain ⟨P, st, hs, h⟩ := h
  simp only [evE] at h
  refine E_bindS hb hs h fun d v P1 H1 ed g1 r1 h1 => ?_
  cases d with
  | int n =>
    simp only [lrngD] at h1
    split at h1
    · rename_i hn
      simp only [Rep] at r1
      subst r1
      refine ⟨n, rfl, RgOk.of_le (Int.le_refl _) hn.2 (by omega) hn.1, fun D hD => ?_⟩
      have e : rgV 0 n = (List.range n.toNat).map fun (i : Nat) => V.int (0 + (i : Int)) := by
        unfold rgV
        rw [Int.sub_zero]
      refine h1 P1 _ (Gr.made g1.ph hD) _ (ResE.of_fresh rfl rfl ⟨D, rfl, Same.free g1.hh hD, g1.ph.free hD, _, upd_same, ?_⟩)
      rw [e]
      have e2 : ∀ l : List Nat, Reps (gl X) P1 (l.map fun (i : Nat) => M.D.int (0 + (i : Int))) (l.map fun (i : Nat) => V.int (0 + (i : Int))) := fun l => by
        induction l with
        | nil => exact Reps.nil
        | cons x l ih => exact Reps.cons (by simp only [Rep]) ih
      exact e2 _
    · exact h1.elim
  | _ => exact h1.elim
end
/-! ### two clauses -/
/-- what stands at p besides -/
def fen (F : Fx) (p : Addr) (o : HO) : Fx := { F with B := upd F.B p o }
section
variable {G : Glob} {F : Fx} {P H : Hp} {σ : L2.St} {st : ES} {p : Addr} {o o' : HO}
theorem own_upd {b : Addr} {d : D} (hp : P p = none) (n : b ≠ p) (h : OwnAt G P H b d) : OwnAt G P (upd H p o) b d := by
  obtain ⟨x, h1, h2⟩ := h.at_
  exact ⟨h.no, x, by rw [upd_ne n]; exact h1, h2⟩
theorem StOk.fence (hs : StOk G F P H σ st) (hp : H p = none) : StOk G (fen F p o) P (upd H p o) σ st := by
  have hP : P p = none := hs.ex.free hp
  have nb : ∀ {b : Addr} {d : D}, OwnAt G P H b d → b ≠ p := fun {b d} h z => by
    obtain ⟨x, h1, _⟩ := h.at_
    rw [z, hp] at h1; cases h1
  refine ⟨hs.len, fun b x q => ?_, fun b x q => ?_, fun i s ov e1 e2 => ?_, hs.dist⟩
  · rw [upd_ne (ne_of_none q hP)]; exact hs.ex _ _ q
  · have q : upd F.B p o b = some x := q
    by_cases hb : b = p
    · rw [hb, upd_same] at q ⊢; exact q
    · rw [upd_ne hb] at q ⊢; exact hs.exB _ _ q
  · have old := hs.slot i s ov e1 e2
    cases s with
    | un => trivial
    | val d => exact old
    | own d =>
      obtain ⟨b, rfl, eb, ob⟩ := old
      exact ⟨b, rfl, by show upd F.B p o b = none; rw [upd_ne (nb ob)]; exact eb, own_upd hP (nb ob) ob⟩
    | par d =>
      obtain ⟨b, rfl, e0, eb, ob⟩ := old
      exact ⟨b, rfl, e0, by show upd F.B p o b = none; rw [upd_ne (nb ob)]; exact eb, own_upd hP (nb ob) ob⟩
    | exc c f d => exact old
theorem fen_ne {b : Addr} (h : (fen F p o).B b = none) : b ≠ p := fun z => by
  have h : upd F.B p o b = none := h
  rw [z, upd_same] at h; cases h
theorem fen_B {b : Addr} (h : (fen F p o).B b = none) : F.B b = none := by
  have n := fen_ne h
  have h : upd F.B p o b = none := h
  rw [upd_ne n] at h; exact h
theorem fen_up {b : Addr} (h : F.B b = none) (n : b ≠ p) : (fen F p o).B b = none := by
  show upd F.B p o b = none
  rw [upd_ne n]; exact h
theorem StOk.refence (hs : StOk G (fen F p o) P H σ st) (hP : P p = none) : StOk G (fen F p o') P (upd H p o') σ st := by
  refine ⟨hs.len, fun b x q => ?_, fun b x q => ?_, fun i s ov e1 e2 => ?_, hs.dist⟩
  · rw [upd_ne (ne_of_none q hP)]; exact hs.ex _ _ q
  · have q : upd F.B p o' b = some x := q
    by_cases hb : b = p
    · rw [hb, upd_same] at q ⊢; exact q
    · rw [upd_ne hb] at q ⊢
      exact hs.exB _ _ (show upd F.B p o b = some x by rw [upd_ne hb]; exact q)
  · have old := hs.slot i s ov e1 e2
    cases s with
    | un => trivial
    | val d => exact old
    | own d =>
      obtain ⟨b, rfl, eb, ob⟩ := old
      exact ⟨b, rfl, fen_up (fen_B eb) (fen_ne eb), own_upd hP (fen_ne eb) ob⟩
    | par d =>
      obtain ⟨b, rfl, e0, eb, ob⟩ := old
      exact ⟨b, rfl, e0, fen_up (fen_B eb) (fen_ne eb), own_upd hP (fen_ne eb) ob⟩
    | exc c f d => exact old
theorem StOk.unfence (hs : StOk G (fen F p o) P H σ st) (hB : F.B p = none) : StOk G F P H σ st := by
  refine ⟨hs.len, hs.ex, fun b x q => ?_, fun i s ov e1 e2 => ?_, hs.dist⟩
  · exact hs.exB _ _ (show upd F.B p o b = some x by rw [upd_ne (ne_of_none q hB)]; exact q)
  · have old := hs.slot i s ov e1 e2
    cases s with
    | un => trivial
    | val d => exact old
    | own d =>
      obtain ⟨b, rfl, eb, ob⟩ := old
      exact ⟨b, rfl, fen_B eb, ob⟩
    | par d =>
      obtain ⟨b, rfl, e0, eb, ob⟩ := old
      exact ⟨b, rfl, e0, fen_B eb, ob⟩
    | exc c f d => exact old
/-- the list at p has grown; the rest as before -/
theorem Gr.put {P1 H1 P2 H2 : Hp} (g : Gr P1 H1 P2 H2) (h1 : H1 p = none) (h2 : P2 p = none) : Gr P1 H1 P2 (upd H2 p o) := ⟨g.pp, fun a x q => by
    rw [upd_ne (ne_of_none q h1)]; exact g.hh _ _ q, fun a x q => by
    rw [upd_ne (ne_of_none q h2)]; exact g.ph _ _ q, g.nw⟩
theorem Gr.noAt {P1 H1 P2 H2 : Hp} (g : Gr P1 H1 P2 H2) (h1 : P1 p = none) (h2 : H1 p = some o) (ho : ∀ us, o ≠ .tup us) : P2 p = none := by
  cases q : P2 p with
  | none => rfl
  | some x =>
    rcases g.nw p x q with z | z
    · rw [h1] at z; cases z
    · exact (z.not h2 ho).elim
end
theorem lc2Run_cons {bind : D → R ES} {test : ES → R Bool} {inner : ES → R (List D)} {x : D} {l ds : List D} (h : lc2Run bind test inner (x :: l) = .ok ds) :
    ∃ st b, bind x = .ok st ∧ test st = .ok b ∧ ((b = true ∧ ∃ ys zs, inner st = .ok ys ∧ lc2Run bind test inner l = .ok zs ∧ ds = ys ++ zs) ∨ (b = false ∧ lc2Run bind test inner l = .ok ds)) := by
  unfold lc2Run at h
  cases e1 : bind x with
  | ok st =>
    rw [e1] at h
    have h1 : (test st).bind (fun b => if b = true then (inner st).bind fun ys => (lc2Run bind test inner l).bind fun zs => .ok (ys ++ zs) else lc2Run bind test inner l) = .ok ds := h
    cases e2 : test st with
    | ok b =>
      rw [e2] at h1
      refine ⟨st, b, rfl, e2, ?_⟩
      cases b with
      | true =>
        have h2 : (inner st).bind (fun ys => (lc2Run bind test inner l).bind fun zs => R.ok (ys ++ zs)) = .ok ds := h1
        cases e3 : inner st with
        | ok ys =>
          rw [e3] at h2
          have h3 : (lc2Run bind test inner l).bind (fun zs => R.ok (ys ++ zs)) = .ok ds := h2
          cases e4 : lc2Run bind test inner l with
          | ok zs => rw [e4] at h3; cases h3; exact .inl ⟨rfl, ys, zs, rfl, rfl, rfl⟩
          | err _ _ => rw [e4] at h3; cases h3
          | bad => rw [e4] at h3; cases h3
        | err _ _ => rw [e3] at h2; cases h2
        | bad => rw [e3] at h2; cases h2
      | false => exact .inr ⟨rfl, h1⟩
    | err _ _ => rw [e2] at h1; cases h1
    | bad => rw [e2] at h1; cases h1
  | err _ _ => rw [e1] at h; cases h
  | bad => rw [e1] at h; cases h
theorem bind_inv {α β : Type} {r : R α} {f : α → R β} {b : β} (h : r.bind f = .ok b) : ∃ a, r = .ok a ∧ f a = .ok b := by
  cases r with
  | ok a => exact ⟨a, rfl, h⟩
  | err _ _ => cases h
  | bad => cases h
section
variable {X : Cx} {F : Fx} {W : WX}
theorem lc2_go {p p2 : Pat} {own : List (Str × Nat)} {own2 : List Nat} {it it2 : IT} {cs cs2 : IQs} {e : IE} {σ : L2.St} {H : Hp} {Q : VK} (hb : isB e = false) (hp : ∀ i ∈ p.slots, i ∈ own.map (·.2)) (hp2 : ∀ i ∈ p2.slots, i ∈ own2) (h : tE (gl X) F W (.lc2 p own own2 it cs p2 it2 cs2 e) σ H Q) :
    tLc2 (tI (gl X) F W it) (gP X.K p) (tC' (gl X) F WF cs) (tI (gl X) F WF it2) (gP X.K p2) (tC' (gl X) F WF cs2) (tE (gl X) F WF e) (own.map (·.2)) own2 σ H Q := by
  obtain ⟨P, st, hs, h⟩ := h
  simp only [evE] at h
  refine I_bind hs h fun l J P1 H1 g1 sv h1 => ?_
  obtain ⟨dd, h2, h3⟩ := noErr_ok h1
  intro Dl hD
  obtain ⟨ds, hrun, h4⟩ := bind_inv h2
  split at h4
  case isFalse => cases h4
  rename_i hlim
  cases h4
  have hs1 := hs.grow g1
  have hFD : F.B Dl = none := hs1.exB.free hD
  refine ⟨fun i m H' => m = l.length - i ∧ i ≤ l.length ∧ ∃ P' acc da, StOk (gl X) (fen F Dl (.lst acc)) P' H' σ st ∧ Gr P1 H1 P' H' ∧ P' Dl = none ∧ H' Dl = some (.lst acc) ∧ Reps (gl X) P' da acc ∧
    ∃ r, lc2Run (fun x => bindP p x (wipeS st (own.map (·.2)))) (fun s => evC cs s) (fun s => (evI it2 s).bind fun l2 => lcRun (fun x => bindP p2 x (wipeS s own2)) (fun s => evC cs2 s) (fun s => evE e s) l2) (l.drop i) = .ok r ∧ ds = da ++ r, ⟨l.length, rfl, Nat.zero_le _, P1, [], [], hs1.fence hD, Gr.made g1.ph hD, g1.ph.free hD, upd_same, Reps.nil, ds, by rw [List.drop_zero]; exact hrun, rfl⟩, fun i m H' hW => ?_⟩
  obtain ⟨hm, hi, P', acc, da, hsF, g, hPD, hHD, hreps, r, hr, hds⟩ := hW
  by_cases hlt : i < l.length
  · refine .inr ?_
    have hget : l[i]? = some l[i] := List.getElem?_eq_getElem hlt
    obtain ⟨hgo, hyld⟩ := (sv i H' (g.pp.trans g.ph)).2 _ hget
    rw [List.drop_eq_getElem_cons hlt] at hr
    obtain ⟨st1, b, hb1, hb2, hcase⟩ := lc2Run_cons hr
    refine ⟨hgo, fun H2 => i + 1 ≤ l.length ∧ ∃ P' acc da, StOk (gl X) (fen F Dl (.lst acc)) P' H2 σ st ∧ Gr P1 H1 P' H2 ∧ P' Dl = none ∧ H2 Dl = some (.lst acc) ∧ Reps (gl X) P' da acc ∧
      ∃ r, lc2Run (fun x => bindP p x (wipeS st (own.map (·.2)))) (fun s => evC cs s) (fun s => (evI it2 s).bind fun l2 => lcRun (fun x => bindP p2 x (wipeS s own2)) (fun s => evC cs2 s) (fun s => evE e s) l2) (l.drop (i + 1)) = .ok r ∧ ds = da ++ r, fun H2 hN => ⟨l.length - (i + 1), by omega, rfl, hN⟩, fun x H2 hy => ?_⟩
    obtain ⟨P2, g2, r2⟩ := hyld x H2 hy P' g.pp g.ph
    have hsw := (hsF.grow g2).wipe (own.map (·.2))
    refine bindP_ok hsw hb1 r2 fun σ2 hs2 hw => ⟨?_, ?_⟩
    · rw [hw _ hp]; exact wipe_wipe_mem
    refine ⟨P2, st1, hs2.unfence hFD, ?_⟩
    rw [hb2]
    intro P3 H3 g3
    have hs3 := hs2.grow g3
    have hsF3 := (hsF.grow g2).grow g3
    have g03 : Gr P' H' P3 H3 := g2.trans g3
    have hPD3 : P3 Dl = none := g03.noAt hPD hHD (fun _ e => by cases e)
    have hHD3 : H3 Dl = some (.lst acc) := g03.hh _ _ hHD
    rcases hcase with ⟨rfl, ys, zs, e1, e2, rfl⟩ | ⟨rfl, e2⟩
    · show ite (true = true) _ _
      rw [if_pos rfl]
      obtain ⟨l2, e3, e4⟩ := bind_inv e1
      refine ⟨P3, st1, hs3.unfence hFD, ?_⟩
      rw [e3]
      intro P4 H4 g4 J1 sv1
      have g04 : Gr P' H' P4 H4 := g03.trans g4
      refine ⟨fun j k H' => k = l2.length - j ∧ j ≤ l2.length ∧ ∃ P' acc da, StOk (gl X) (fen F Dl (.lst acc)) P' H' σ st ∧ StOk (gl X) (fen F Dl (.lst acc)) P' H' σ2 st1 ∧ Same P4 P' ∧ Gr P1 H1 P' H' ∧ P' Dl = none ∧ H' Dl = some (.lst acc) ∧ Reps (gl X) P' da acc ∧
        ∃ r, lcRun (fun x => bindP p2 x (wipeS st1 own2)) (fun s => evC cs2 s) (fun s => evE e s) (l2.drop j) = .ok r ∧ ds = da ++ (r ++ zs), ⟨l2.length, rfl, Nat.zero_le _, P4, acc, da, hsF3.grow g4, hs3.grow g4, Same.refl _, g.trans g04, g04.noAt hPD hHD (fun _ e => by cases e), g04.hh _ _ hHD, hreps.mono g04.pp, ys, by rw [List.drop_zero]; exact e4, hds⟩, fun j k H5 hV => ?_⟩
      obtain ⟨hk, hj, P5, acc5, da5, hsA, hsB, s45, g5, hPD5, hHD5, hreps5, r5, hr5, hds5⟩ := hV
      by_cases hjl : j < l2.length
      · refine .inr ?_
        have hget1 : l2[j]? = some l2[j] := List.getElem?_eq_getElem hjl
        obtain ⟨hgo1, hyld1⟩ := (sv1 j H5 (s45.trans g5.ph)).2 _ hget1
        rw [List.drop_eq_getElem_cons hjl] at hr5
        obtain ⟨st6, b6, hb6, hc6, hcase6⟩ := lcRun_cons hr5
        refine ⟨hgo1, fun H' => j + 1 ≤ l2.length ∧ ∃ P' acc da, StOk (gl X) (fen F Dl (.lst acc)) P' H' σ st ∧ StOk (gl X) (fen F Dl (.lst acc)) P' H' σ2 st1 ∧ Same P4 P' ∧ Gr P1 H1 P' H' ∧ P' Dl = none ∧ H' Dl = some (.lst acc) ∧ Reps (gl X) P' da acc ∧
          ∃ r, lcRun (fun x => bindP p2 x (wipeS st1 own2)) (fun s => evC cs2 s) (fun s => evE e s) (l2.drop (j + 1)) = .ok r ∧ ds = da ++ (r ++ zs), fun H' hN => ⟨l2.length - (j + 1), by omega, rfl, hN⟩, fun x6 H6 hy6 => ?_⟩
        obtain ⟨P6, g6, r6⟩ := hyld1 x6 H6 hy6 P5 s45 g5.ph
        refine bindP_ok ((hsB.grow g6).wipe own2) hb6 r6 fun σ7 hs7 hw7 => ⟨?_, ?_⟩
        · rw [hw7 _ hp2]; exact wipe_wipe_mem
        refine ⟨P6, st6, hs7.unfence hFD, ?_⟩
        rw [hc6]
        intro P7 H7 g7
        have g57 : Gr P5 H5 P7 H7 := g6.trans g7
        rcases hcase6 with ⟨rfl, y, ys', e5, e6, rfl⟩ | ⟨rfl, e6⟩
        · show ite (true = true) _ _
          rw [if_pos rfl]
          refine ⟨P7, st6, (hs7.grow g7).unfence hFD, ?_⟩
          rw [e5]
          intro P8 H8 g8 v rv
          obtain ⟨P9, g9, _, r9⟩ := rv.store hb g8
          have gall : Gr P5 H5 P9 H8 := g57.trans g9
          have hP9 : P9 Dl = none := gall.noAt hPD5 hHD5 (fun _ e => by cases e)
          have hlen : acc5.length < ds.length := by
            rw [hreps5.length, hds5]
            simp only [List.length_append, List.length_cons]
            omega
          refine ⟨acc5, gall.hh _ _ hHD5, by rw [← lim_eq]; omega, by omega, P9, acc5 ++ [v], da5 ++ [y], (hsA.grow gall).refence hP9, (hsB.grow gall).refence hP9, s45.trans gall.pp, (g5.trans gall).put hD hP9, hP9, upd_same, (hreps5.mono gall.pp).append (Reps.cons r9 Reps.nil), ys', e6, by rw [hds5]; simp⟩
        · show ite (false = true) _ _
          rw [if_neg Bool.false_ne_true]
          exact ⟨by omega, P7, acc5, da5, hsA.grow g57, hsB.grow g57, s45.trans g57.pp, g5.trans g57, g57.noAt hPD5 hHD5 (fun _ e => by cases e), g57.hh _ _ hHD5, hreps5.mono g57.pp, r5, e6, hds5⟩
      · have hjl : j = l2.length := by omega
        subst hjl
        rw [List.drop_length] at hr5
        have er : r5 = [] := by unfold lcRun at hr5; cases hr5; rfl
        subst er
        exact .inl ⟨(sv1 _ H5 (s45.trans g5.ph)).1 (Nat.le_refl _), by omega, P5, acc5, da5, hsA, g5, hPD5, hHD5, hreps5, zs, e2, by rw [hds5]; rfl⟩
    · show ite (false = true) _ _
      rw [if_neg Bool.false_ne_true]
      exact ⟨by omega, P3, acc, da, hsF3, g.trans g03, hPD3, hHD3, hreps.mono g03.pp, r, e2, hds⟩
  · have hil : i = l.length := by omega
    subst hil
    rw [List.drop_length] at hr
    have er : r = [] := by unfold lc2Run at hr; cases hr; rfl
    subst er
    refine .inl ⟨(sv _ H' (g.pp.trans g.ph)).1 (Nat.le_refl _), ?_⟩
    refine h3 P' H' g _ (ResE.of_fresh rfl rfl ⟨Dl, rfl, Same.free g1.hh hD, hPD, _, hHD, ?_⟩)
    rw [hds, List.append_nil]
    exact hreps
end
end M
set_option Elab.async false
set_option linter.all false
set_option maxRecDepth 100000
set_option maxHeartbeats 4000000
/-! M, part J: the small language against the text's expressions; the theorem of all expressions. -/
namespace M
open PySem L2 PySem.Spec PyProof.Rows

def nameB (N : List Str) (sc : Scope) (i : Nat) (x : Str) : Bool := decide (N[i]? = some x) && visB sc x && !(x == ("__debug__" : Str)) && !(x == ("__classdict__" : Str))
theorem nameB_ok {N : List Str} {sc : Scope} {i : Nat} {x : Str} (h : nameB N sc i x = true) : N[i]? = some x ∧ visB sc x = true ∧ (x == ("__debug__" : Str)) = false ∧ (x == ("__classdict__" : Str)) = false := by
  simp only [nameB, Bool.and_eq_true, decide_eq_true_eq, Bool.not_eq_true'] at h
  exact ⟨h.1.1.1, h.1.1.2, h.1.2, h.2⟩
def gnB (sc : Scope) (n x : Str) : Bool := decide (n = x) && glB sc x && !(x == ("__debug__" : Str))
theorem gnB_ok {sc : Scope} {n x : Str} (h : gnB sc n x = true) : n = x ∧ glB sc x = true ∧ (x == ("__debug__" : Str)) = false := by
  simp only [gnB, Bool.and_eq_true, decide_eq_true_eq, Bool.not_eq_true'] at h
  exact ⟨h.1.1, h.1.2, h.2⟩
def leafT : IE → Bool
  | .cmp _ _ _ => true | .chain _ _ _ _ _ => true | .isN _ => true | .notN _ => true | .isb _ _ => true | _ => false
mutual
def okE (N : List Str) (cm : Bool) : IE → Scope → Expr → Bool
  | .var i, sc, e => match e with | .Name x _ => nameB N sc i x | _ => false
  | .bor i, sc, e => match e with | .Name x _ => nameB N sc i x | _ => false
  | .int i, _, e => match e with | .Constant (.int j) _ _ => decide (i = j) | _ => false
  | .bl b, _, e => match e with | .Constant (.bool c) _ _ => decide (b = c) | _ => false
  | .non, _, e => match e with | .Constant .none _ _ => true | _ => false
  | .str s, _, e => match e with | .Constant (.str t) _ _ => decide (s = t) | _ => false
  | .glob n _, sc, e => match e with | .Name x _ => gnB sc n x | _ => false
  | .bin op a b, sc, e => match e with | .BinOp x o y _ => decide (opOf op = o) && (okE N cm a sc x && okE N cm b sc y) | _ => false
  | .neg a, sc, e => match e with | .UnaryOp .USub x _ => okE N cm a sc x | _ => false
  | .cmp op a b, sc, e => match e with | .Compare x [o] [y] _ => decide (copOf op = o) && notSet y && (okE N cm a sc x && okE N cm b sc y) | _ => false
  | .chain o1 o2 a b c, sc, e => match e with | .Compare x [p1, p2] [y, z] _ => decide (copOf o1 = p1) && decide (copOf o2 = p2) && notSet z && (okE N cm a sc x && (okE N cm b sc y && okE N cm c sc z)) | _ => false
  | .isN a, sc, e => match e with | .Compare x [.Is] [.Constant .none _ _] _ => okE N cm a sc x | _ => false
  | .notN a, sc, e => match e with | .Compare x [.IsNot] [.Constant .none _ _] _ => okE N cm a sc x | _ => false
  | .and l, sc, e => match e with | .BoolOp .And xs _ => okV N cm l sc xs | _ => false
  | .or l, sc, e => match e with | .BoolOp .Or xs _ => okV N cm l sc xs | _ => false
  | .not a, sc, e => match e with | .UnaryOp .Not x _ => okE N cm a sc x | _ => false
  | .ife c a b, sc, e => match e with | .IfExp z x y _ => !isB a && !isB b && (okQ N cm c sc z && (okE N cm a sc x && okE N cm b sc y)) | _ => false
  | .tup l, sc, e => match e with | .Tuple xs _ _ => okEs N cm l sc xs | _ => false
  | .lst l, sc, e => match e with | .List xs _ => okEs N cm l sc xs | _ => false
  | .idx a i, sc, e => match e with | .Subscript x y _ => notSlice y && (okE N cm a sc x && okE N cm i sc y) | _ => false
  | .slc a lo hi, sc, e => match e with | .Subscript x (.Slice l h none _) _ => okE N cm a sc x && (okO N cm lo sc l && okO N cm hi sc h) | _ => false
  | .call n _ l, sc, e => match e with | .Call (.Name x _) (y :: ys) [] _ => cm && gnB sc n x && okEs N cm l sc (y :: ys) | _ => false
  | .b1 f a, sc, e => match e with | .Call (.Name x _) [y] [] _ => cm && decide (f.nm = x) && glB sc x && notStar y && okE N cm a sc y | _ => false
  | .b2 f a b, sc, e => match e with | .Call (.Name x _) [y, z] [] _ => cm && decide (f.nm = x) && glB sc x && notStar y && notStar z && (okE N cm a sc y && okE N cm b sc z) | _ => false
  | .lc p own it c a, sc, e => match e with
    | .ListComp elt [⟨tg, iter, ifs, asy⟩] scope _ => cm && decide (asy = 0) && notSet iter && blkC N sc scope own && okP N scope.names p tg && p.slots.all (fun i => decide (i ∈ own.map (·.2))) && !isB a &&
        (okI N cm it sc tg iter && (okC N cm c (relS scope sc) ifs && okE N cm a (relS scope sc) elt))
    | _ => false
  | .lc2 p own own2 it c p2 it2 c2 a, sc, e => match e with
    | .ListComp elt [⟨tg, iter, ifs, asy⟩, ⟨tg1, iter1, ifs1, asy1⟩] scope _ => cm && decide (asy = 0) && decide (asy1 = 0) && notSet iter && notSet iter1 && blkC N sc scope own && okP N scope.names p tg && okP N scope.names p2 tg1 && p.slots.all (fun i => decide (i ∈ own.map (·.2))) && p2.slots.all (fun i => decide (i ∈ own2)) && own2.all (fun i => decide (i ∈ own.map (·.2))) && !isB a &&
        (okI N cm it sc tg iter && (okC N cm c (relS scope sc) ifs && (okI N cm it2 (relS scope sc) tg1 iter1 && (okC N cm c2 (relS scope sc) ifs1 && okE N cm a (relS scope sc) elt))))
    | _ => false
  | .lrng a, sc, e => match e with | .Call (.Name x _) [.Call (.Name y _) [z] [] _] [] _ => cm && decide (x = "list") && decide (y = "range") && glB sc x && glB sc y && notStar z && !isB a && okE N cm a sc z | _ => false
  | .sset a, sc, e => match e with | .Call (.Name x _) [.Call (.Name y _) [z] [] _] [] _ => cm && decide (x = "sorted") && decide (y = "set") && glB sc x && glB sc y && notStar z && !isB a && okE N cm a sc z | _ => false
  | .xat i _ f, sc, e => match e with | .Attribute (.Name x _) g _ => !cm && decide (f = g) && nameB N sc i x | _ => false
  | .fld _ f a, sc, e => match e with | .Attribute x g _ => decide (f = g) && notCall0 x && okE N cm a sc x | _ => false
  | .nset a, sc, e => match e with | .Call (.Name x _) [.Call (.Name y _) [z] [] _] [] _ => cm && decide (x = "len") && decide (y = "set") && glB sc x && glB sc y && notStar z && !isB a && okE N cm a sc z | _ => false
  | .prop _ f _ a, sc, e => match e with | .Attribute x g _ => cm && decide (f = g) && notCall0 x && !isB a && okE N cm a sc x | _ => false
  | .meth _ m _ a l, sc, e => match e with
    | .Call (.Attribute o n apos) (y :: ys) [] pos => cm && decide (m = n) && notCall0 o && !isB a && decide ((y :: ys).length < 30) && (apos.endLine == pos.line) && (okE N cm a sc o && okEs N cm l sc (y :: ys))
    | _ => false
  | .make n _ l, sc, e => match e with | .Call (.Name x _) (y :: ys) [] _ => cm && gnB sc n x && okEs N cm l sc (y :: ys) | _ => false
  | .b3 f a b d, sc, e => match e with | .Call (.Name x _) [y, z, u] [] _ => cm && decide (f.nm = x) && glB sc x && notStar y && notStar z && notStar u && (okE N cm a sc y && (okE N cm b sc z && okE N cm d sc u)) | _ => false
  | .isi a t, sc, e => match e with | .Call (.Name x _) [y, .Name z _] [] _ => cm && decide (x = "isinstance") && decide (t.nm = z) && !decide (t = .non) && glB sc x && glB sc z && notStar y && okE N cm a sc y | _ => false
  | .isb a b, sc, e => match e with | .Compare x [.Is] [.Constant (.bool k) _ _] _ => decide (b = k) && okE N cm a sc x | _ => false
  | .gfn n, sc, e => match e with | .Name x _ => gnB sc n x | _ => false
  | .callv i _ l, sc, e => match e with | .Call (.Name x _) (y :: ys) [] _ => cm && nameB N sc i x && okEs N cm l sc (y :: ys) | _ => false
  | .mk0 n a, sc, e => match e with | .Call (.Name x _) [y] [] _ => cm && gnB sc n x && notStar y && okE N cm a sc y | _ => false
  | .mk1 n _ a, sc, e => match e with | .Call (.Name x _) [y] [] _ => cm && gnB sc n x && notStar y && !isB a && okE N cm a sc y | _ => false
  | .xfld _ f a, sc, e => match e with | .Attribute x g _ => cm && decide (f = g) && notCall0 x && !isB a && okE N cm a sc x | _ => false
  | .isx a t _, sc, e => match e with | .Call (.Name x _) [y, .Name z _] [] _ => cm && decide (x = "isinstance") && glB sc x && gnB sc t z && notStar y && !isB a && okE N cm a sc y | _ => false
  | .dnew _, _, e => match e with | .Dict [] [] _ => true | _ => false
  | .dget1 a k, sc, e => match e with | .Call (.Attribute o n apos) [y] [] pos => decide (n = "get") && notCall0 o && notStar y && (apos.endLine == pos.line) && (okE N cm a sc o && okE N cm k sc y) | _ => false
  | .ddis a b, sc, e => match e with | .Dict [some y] [z] _ => !isB a && !isB b && (okE N cm a sc y && okE N cm b sc z) | _ => false
  | .dget a k x, sc, e => match e with | .Call (.Attribute o n apos) [y, z] [] pos => decide (n = "get") && notCall0 o && !isB x && notStar y && notStar z && (apos.endLine == pos.line) && (okE N cm a sc o && (okE N cm k sc y && okE N cm x sc z)) | _ => false
  | .lend _ a, sc, e => match e with | .Call x y z p => isC a && okE N cm a sc (.Call x y z p) | _ => false
  | .rev a, sc, e => match e with | .Subscript x (.Slice none none (some (.UnaryOp .USub (.Constant (.int 1) _ _) _)) _) _ => okE N cm a sc x | _ => false
def okV (N : List Str) (cm : Bool) : IEs → Scope → List Expr → Bool
  | .nil, _, _ => false
  | .cons a r, sc, xs => match r, xs with
    | .nil, [x] => okE N cm a sc x
    | .cons _ _, x :: y :: ys => okE N cm a sc x && okV N cm r sc (y :: ys)
    | _, _ => false
def okQ (N : List Str) (cm : Bool) : IQ → Scope → Expr → Bool
  | .v a, sc, e => (plainTest e || leafT a) && okE N cm a sc e
  | .and l, sc, e => match e with | .BoolOp .And xs _ => okQs N cm l sc xs | _ => false
  | .or l, sc, e => match e with | .BoolOp .Or xs _ => okQs N cm l sc xs | _ => false
  | .not a, sc, e => match e with | .UnaryOp .Not x _ => okQ N cm a sc x | _ => false
def okQs (N : List Str) (cm : Bool) : IQs → Scope → List Expr → Bool
  | .nil, _, _ => false
  | .cons a r, sc, xs => match r, xs with
    | .nil, [x] => okQ N cm a sc x
    | .cons _ _, x :: y :: ys => okQ N cm a sc x && okQs N cm r sc (y :: ys)
    | _, _ => false
def okC (N : List Str) (cm : Bool) : IQs → Scope → List Expr → Bool
  | .nil, _, xs => match xs with | [] => true | _ => false
  | .cons a r, sc, xs => match r, xs with
    | .nil, [x] => okQ N cm a sc x
    | _, _ => false
def okEs (N : List Str) (cm : Bool) : IEs → Scope → List Expr → Bool
  | .nil, _, xs => match xs with | [] => true | _ => false
  | .cons a r, sc, xs => match xs with
    | x :: ys => !isB a && notStar x && (okE N cm a sc x && okEs N cm r sc ys)
    | _ => false
def okO (N : List Str) (cm : Bool) : IO → Scope → Option Expr → Bool
  | .no, _, o => match o with | none => true | _ => false
  | .some a, sc, o => match o with | some x => okE N cm a sc x | _ => false
def okI (N : List Str) (cm : Bool) : IT → Scope → Expr → Expr → Bool
  | .vals a, sc, _, e => match e with | .Call (.Attribute o n apos) [] [] pos => decide (n = "values") && notCall0 o && !isB a && (apos.endLine == pos.line) && okE N cm a sc o | _ => false
  | .keys a, sc, _, e => !isB a && okE N cm a sc e
  | .seq a, sc, _, e => !isB a && okE N cm a sc e
  | .r1 a, sc, _, e => match e with | .Call (.Name x _) [y] [] _ => decide (x = "range") && glB sc x && notStar y && okE N cm a sc y | _ => false
  | .r2 a b, sc, _, e => match e with | .Call (.Name x _) [y, z] [] _ => decide (x = "range") && glB sc x && notStar y && notStar z && (okE N cm a sc y && okE N cm b sc z) | _ => false
  | .enum a, sc, tg, e => match tg, e with | .Tuple _ _ _, .Call (.Name x _) [y] [] _ => decide (x = "enumerate") && glB sc x && notStar y && !isB a && okE N cm a sc y | _, _ => false
  | .zip a b, sc, tg, e => match tg, e with | .Tuple _ _ _, .Call (.Name x _) [y, z] [] _ => decide (x = "zip") && glB sc x && notStar y && notStar z && !isB a && !isB b && (okE N cm a sc y && okE N cm b sc z) | _, _ => false
end
mutual
def reqE (G : Glob) (lv : Nat) : IE → Prop
  | .glob n d => GlobOk G n d
  | .bin _ a b => reqE G lv a ∧ reqE G lv b
  | .neg a => reqE G lv a
  | .cmp _ a b => reqE G lv a ∧ reqE G lv b
  | .chain _ _ a b c => reqE G lv a ∧ reqE G lv b ∧ reqE G lv c
  | .isN a => reqE G lv a
  | .notN a => reqE G lv a
  | .and l => reqEs G lv l
  | .or l => reqEs G lv l
  | .not a => reqE G lv a
  | .ife c a b => reqQ G lv c ∧ reqE G lv a ∧ reqE G lv b
  | .tup l => reqEs G lv l
  | .lst l => reqEs G lv l
  | .idx a i => reqE G lv a ∧ reqE G lv i
  | .slc a lo hi => reqE G lv a ∧ reqO G lv lo ∧ reqO G lv hi
  | .call n F l => CallOk G lv n (lenEs l) F ∧ reqEs G lv l
  | .b1 _ a => reqE G lv a
  | .b2 _ a b => reqE G lv a ∧ reqE G lv b
  | .lc _ _ it c a => reqI G lv it ∧ reqQs G lv c ∧ reqE G lv a
  | .lc2 _ _ _ it c _ it2 c2 a => reqI G lv it ∧ reqQs G lv c ∧ reqI G lv it2 ∧ reqQs G lv c2 ∧ reqE G lv a
  | .sset a => reqE G lv a
  | .lrng a => reqE G lv a
  | .xat _ c f => XatOk G c f
  | .fld c f a => FldOk G c f ∧ reqE G lv a
  | .nset a => reqE G lv a
  | .prop c f F a => PropOk G lv c f F ∧ reqE G lv a
  | .meth c m F a l => MethOk G lv c m (lenEs l) F ∧ reqE G lv a ∧ reqEs G lv l
  | .make c F l => MakeOk G lv c (lenEs l) F ∧ reqEs G lv l
  | .b3 _ a b d => reqE G lv a ∧ reqE G lv b ∧ reqE G lv d
  | .isi a _ => reqE G lv a
  | .isb a _ => reqE G lv a
  | .rev a => reqE G lv a
  | .gfn n => GfnOk G n
  | .callv _ ks l => VcallOk G lv (lenEs l) ks ∧ reqEs G lv l
  | .mk0 c a => V0Ok G c ∧ reqE G lv a
  | .mk1 c f a => V1Ok G lv c f ∧ reqE G lv a
  | .xfld c f a => VfOk G c f ∧ reqE G lv a
  | .isx a t ks => VisOk G t ks ∧ reqE G lv a
  | .lend _ a => reqE G lv a
  | .dget a k x => reqE G lv a ∧ reqE G lv k ∧ reqE G lv x
  | .dget1 a k => reqE G lv a ∧ reqE G lv k
  | .ddis a b => reqE G lv a ∧ reqE G lv b
  | _ => True
def reqEs (G : Glob) (lv : Nat) : IEs → Prop
  | .nil => True
  | .cons a r => reqE G lv a ∧ reqEs G lv r
def reqQ (G : Glob) (lv : Nat) : IQ → Prop
  | .v a => reqE G lv a
  | .and l => reqQs G lv l
  | .or l => reqQs G lv l
  | .not a => reqQ G lv a
def reqQs (G : Glob) (lv : Nat) : IQs → Prop
  | .nil => True
  | .cons a r => reqQ G lv a ∧ reqQs G lv r
def reqO (G : Glob) (lv : Nat) : IO → Prop
  | .no => True
  | .some a => reqE G lv a
def reqI (G : Glob) (lv : Nat) : IT → Prop
  | .vals a => reqE G lv a
  | .keys a => reqE G lv a
  | .seq a => reqE G lv a
  | .r1 a => reqE G lv a
  | .r2 a b => reqE G lv a ∧ reqE G lv b
  | .enum a => reqE G lv a
  | .zip a b => reqE G lv a ∧ reqE G lv b
end
theorem okEs_star {N : List Str} {cm : Bool} {sc : Scope} : ∀ {l : IEs} {xs : List Expr}, okEs N cm l sc xs = true → ∀ y ∈ xs, notStar y = true
  | .nil, [], _, y, hy => by cases hy
  | .nil, _ :: _, h, _, _ => (Bool.false_ne_true h).elim
  | .cons _ _, [], h, _, _ => (Bool.false_ne_true h).elim
  | .cons a r, x :: xs, h, y, hy => by
    simp only [okEs, Bool.and_eq_true] at h
    rcases List.mem_cons.mp hy with rfl | hy
    · exact h.1.2
    · exact okEs_star h.2.2 y hy
section
variable {N : List Str} {lv : Nat}
mutual
theorem okE_ok {X : Cx} {F : Fx} {W : WX} {sc : Scope} {tn : List (Str × NameKind)} {cm : Bool} (c : Cxt F W X N sc tn cm lv) : ∀ (a : IE) (e : Expr), okE N cm a sc e = true → reqE (gl X) lv a → PE X e (tE (gl X) F W a)
  | .var i, e, h, r => by
    cases e with
    | Name x p => obtain ⟨h1, h2, h3, h4⟩ := nameB_ok h; exact sE_var c h1 h2 h3 h4
    | _ => exact (Bool.false_ne_true h).elim
  | .bor i, e, h, r => by
    cases e with
    | Name x p => obtain ⟨h1, h2, h3, h4⟩ := nameB_ok h; exact sE_bor c h1 h2 h3 h4
    | _ => exact (Bool.false_ne_true h).elim
  | .int i, e, h, r => by
    cases e with
    | Constant k j p =>
      cases k with
      | int j => obtain rfl := of_decide_eq_true h; exact sE_const pe_int (d := .int i) (fun _ => rfl) rfl rfl fun _ => rep_int
      | _ => exact (Bool.false_ne_true h).elim
    | _ => exact (Bool.false_ne_true h).elim
  | .bl b, e, h, r => by
    cases e with
    | Constant k j p =>
      cases k with
      | bool j => obtain rfl := of_decide_eq_true h; exact sE_const pe_bl (d := .bl b) (fun _ => rfl) rfl rfl fun _ => rep_bl
      | _ => exact (Bool.false_ne_true h).elim
    | _ => exact (Bool.false_ne_true h).elim
  | .non, e, h, r => by
    cases e with
    | Constant k j p =>
      cases k with
      | none => exact sE_const pe_non (d := .non) (fun _ => rfl) rfl rfl fun _ => by simp only [Rep]
      | _ => exact (Bool.false_ne_true h).elim
    | _ => exact (Bool.false_ne_true h).elim
  | .str s, e, h, r => by
    cases e with
    | Constant k j p =>
      cases k with
      | str j => obtain rfl := of_decide_eq_true h; exact sE_const pe_str (d := .str s) (fun _ => rfl) rfl rfl fun _ => by simp only [Rep]
      | _ => exact (Bool.false_ne_true h).elim
    | _ => exact (Bool.false_ne_true h).elim
  | .glob n d, e, h, r => by
    cases e with
    | Name x p => obtain ⟨rfl, h2, h3⟩ := gnB_ok h; exact sE_glob c r h2 h3
    | _ => exact (Bool.false_ne_true h).elim
  | .bin op a b, e, h, r => by
    cases e with
    | BinOp x o y p =>
      simp only [okE, Bool.and_eq_true, decide_eq_true_eq] at h
      obtain ⟨rfl, h1, h2⟩ := h
      exact sE_bin c (okE_ok c a x h1 r.1) (okE_ok c b y h2 r.2)
    | _ => exact (Bool.false_ne_true h).elim
  | .neg a, e, h, r => by
    cases e with
    | UnaryOp o x p =>
      cases o with
      | USub => exact sE_neg (okE_ok c a x h r)
      | _ => exact (Bool.false_ne_true h).elim
    | _ => exact (Bool.false_ne_true h).elim
  | .cmp op a b, e, h, r => by
    match e, h with
    | .Compare x [o] [y] p, h =>
      simp only [okE, Bool.and_eq_true, decide_eq_true_eq] at h
      obtain ⟨⟨rfl, hn⟩, h1, h2⟩ := h
      exact sE_cmp c (okE_ok c a x h1 r.1) (okE_ok c b y h2 r.2) hn
  | .chain o1 o2 a b d, e, h, r => by
    match e, h with
    | .Compare x [p1, p2] [y, z] p, h =>
      simp only [okE, Bool.and_eq_true, decide_eq_true_eq] at h
      obtain ⟨⟨⟨rfl, rfl⟩, hn⟩, h1, h2, h3⟩ := h
      exact sE_chain c (okE_ok c a x h1 r.1) (okE_ok c b y h2 r.2.1) (okE_ok c d z h3 r.2.2) hn
  | .isN a, e, h, r => by
    match e, h with
    | .Compare x [.Is] [.Constant .none _ _] p, h => exact sE_isN (okE_ok c a x h r)
  | .notN a, e, h, r => by
    match e, h with
    | .Compare x [.IsNot] [.Constant .none _ _] p, h => exact sE_notN (okE_ok c a x h r)
  | .and l, e, h, r => by
    match e, h with
    | .BoolOp .And xs p, h => exact sE_and (x := .Name "" p) (okAnd_ok c l xs h r)
  | .or l, e, h, r => by
    match e, h with
    | .BoolOp .Or xs p, h => exact sE_or (x := .Name "" p) (okOr_ok c l xs h r)
  | .not a, e, h, r => by
    match e, h with
    | .UnaryOp .Not x p, h => exact sE_not (okE_ok c a x h r)
  | .ife q a b, e, h, r => by
    match e, h with
    | .IfExp z x y p, h =>
      simp only [okE, Bool.and_eq_true, Bool.not_eq_true'] at h
      obtain ⟨⟨h1, h2⟩, h3, h4, h5⟩ := h
      exact sE_ife h1 h2 (okQ_ok c q z h3 r.1) (okE_ok c a x h4 r.2.1) (okE_ok c b y h5 r.2.2)
  | .tup l, e, h, r => by
    match e, h with
    | .Tuple xs _ p, h => exact sE_tup (okEs_ok c l xs h r)
  | .lst l, e, h, r => by
    match e, h with
    | .List xs p, h => exact sE_lst (okEs_ok c l xs h r)
  | .idx a i, e, h, r => by
    match e, h with
    | .Subscript x y p, h =>
      simp only [okE, Bool.and_eq_true] at h
      exact sE_idx c h.1 (okE_ok c a x h.2.1 r.1) (okE_ok c i y h.2.2 r.2)
  | .slc a lo hi, e, h, r => by
    match e, h with
    | .Subscript x (.Slice l u none p2) p, h =>
      simp only [okE, Bool.and_eq_true] at h
      exact sE_slc (okE_ok c a x h.1 r.1) (okO_ok c lo l h.2.1 r.2.1) (okO_ok c hi u h.2.2 r.2.2)
  | .call n Fn l, e, h, r => by
    match e, h with
    | .Call (.Name x p) (y :: ys) [] pos, h =>
      simp only [okE, Bool.and_eq_true] at h
      obtain ⟨⟨rfl, h1⟩, h2⟩ := h
      obtain ⟨rfl, h3, h4⟩ := gnB_ok h1
      exact sE_call c r.1 rfl h3 h4 (okEs_star h2) (okEs_ok c l _ h2 r.2)
  | .b1 f a, e, h, r => by
    match e, h with
    | .Call (.Name x p) [y] [] pos, h =>
      simp only [okE, Bool.and_eq_true, decide_eq_true_eq] at h
      obtain ⟨⟨⟨⟨rfl, rfl⟩, h1⟩, h2⟩, h3⟩ := h
      exact sE_b1 c h1 h2 (okE_ok c a y h3 r)
  | .b2 f a b, e, h, r => by
    match e, h with
    | .Call (.Name x p) [y, z] [] pos, h =>
      simp only [okE, Bool.and_eq_true, decide_eq_true_eq] at h
      obtain ⟨⟨⟨⟨⟨rfl, rfl⟩, h1⟩, h2⟩, h3⟩, h4, h5⟩ := h
      exact sE_b2 c h1 h2 h3 (okE_ok c a y h4 r.1) (okE_ok c b z h5 r.2)
  | .lc p own it q a, e, h, r => by
    match e, h with
    | .ListComp elt [⟨tg, iter, ifs, asy⟩] scope pos, h =>
      simp only [okE, Bool.and_eq_true, decide_eq_true_eq, Bool.not_eq_true', List.all_eq_true] at h
      obtain ⟨⟨⟨⟨⟨⟨⟨rfl, rfl⟩, h1⟩, h2⟩, h3⟩, h4⟩, h5⟩, h6, h7, h8⟩ := h
      have hok : BlkOk X.N X.env.scope scope own := by rw [c.hN, c.hs]; exact blkOk_by h2
      refine (pe_lc (wi := tI (gl X) F W it) (g := gP X.K p) (tt := tC' (gl X) F WF q) (te := tE (gl X) F WF a) (c.calm rfl) (by rw [c.hN]; exact c.nd) (okI_ok c it tg iter h6 r.1) hok (fun s H C cl fp => sP (blk_cxt c) h3) (fun s H C cl fp => okC_ok (blk_cxt c) q ifs h7 r.2.1) (fun s H C cl fp => okE_ok (blk_cxt c) a elt h8 r.2.2) (nofold h1)).weak fun σ H Q hh => ?_
      exact lc_go h5 h4 hh
  | .lc2 p own own2 it q p2 it2 q2 a, e, h, r => by
    match e, h with
    | .ListComp elt [⟨tg, iter, ifs, asy⟩, ⟨tg1, iter1, ifs1, asy1⟩] scope pos, h =>
      simp only [okE, Bool.and_eq_true, decide_eq_true_eq, Bool.not_eq_true', List.all_eq_true] at h
      obtain ⟨⟨⟨⟨⟨⟨⟨⟨⟨⟨⟨⟨rfl, rfl⟩, rfl⟩, h1⟩, h1'⟩, h2⟩, h3⟩, h3'⟩, h4⟩, h4'⟩, h4''⟩, h5⟩, h6, h7, h8, h9, h10⟩ := h
      have hok : BlkOk X.N X.env.scope scope own := by rw [c.hN, c.hs]; exact blkOk_by h2
      refine (pe_lc2 (vs1 := own2) (wi := tI (gl X) F W it) (g := gP X.K p) (tt := tC' (gl X) F WF q) (wi1 := tI (gl X) F WF it2) (g1 := gP X.K p2) (tt1 := tC' (gl X) F WF q2) (te := tE (gl X) F WF a) (c.calm rfl) (by rw [c.hN]; exact c.nd) (okI_ok c it tg iter h6 r.1) hok h4'' (fun s H C cl fp => sP (blk_cxt c) h3) (fun s H C cl fp => okC_ok (blk_cxt c) q ifs h7 r.2.1) (fun s H C cl fp => okI_ok (blk_cxt c) it2 tg1 iter1 h8 r.2.2.1) (fun s H C cl fp => sP (blk_cxt c) h3') (fun s H C cl fp => okC_ok (blk_cxt c) q2 ifs1 h9 r.2.2.2.1) (fun s H C cl fp => okE_ok (blk_cxt c) a elt h10 r.2.2.2.2) (nofold h1) (fun env => nofold (env := env) h1')).weak fun σ H Q hh => ?_
      exact lc2_go h5 h4 h4' hh
  | .lrng a, e, h, r => by
    match e, h with
    | .Call (.Name x p) [.Call (.Name y p2) [z] [] p3] [] pos, h =>
      simp only [okE, Bool.and_eq_true, decide_eq_true_eq, Bool.not_eq_true'] at h
      obtain ⟨⟨⟨⟨⟨⟨⟨rfl, rfl⟩, rfl⟩, h1⟩, h2⟩, h3⟩, h4⟩, h5⟩ := h
      exact sE_lrng c h1 h2 h3 h4 (okE_ok c a z h5 r)
  | .sset a, e, h, r => by
    match e, h with
    | .Call (.Name x p) [.Call (.Name y p2) [z] [] p3] [] pos, h =>
      simp only [okE, Bool.and_eq_true, decide_eq_true_eq, Bool.not_eq_true'] at h
      obtain ⟨⟨⟨⟨⟨⟨⟨rfl, rfl⟩, rfl⟩, h1⟩, h2⟩, h3⟩, h4⟩, h5⟩ := h
      exact sE_sset c h1 h2 h3 h4 (okE_ok c a z h5 r)
  | .xat i cc f, e, h, r => by
    match e, h with
    | .Attribute (.Name x p) g pos, h =>
      cases cm with
      | true => exact (Bool.false_ne_true h).elim
      | false =>
        simp only [okE, Bool.and_eq_true, decide_eq_true_eq] at h
        obtain ⟨⟨_, rfl⟩, h1⟩ := h
        obtain ⟨h1, h2, h3, h4⟩ := nameB_ok h1
        exact sE_xat c h1 h2 h3 h4 r
  | .fld cl f a, e, h, r => by
    match e, h with
    | .Attribute x g pos, h =>
      simp only [okE, Bool.and_eq_true, decide_eq_true_eq] at h
      obtain ⟨⟨rfl, h1⟩, h2⟩ := h
      exact sE_fld c r.1 (okE_ok c a x h2 r.2) h1
  | .nset a, e, h, r => by
    match e, h with
    | .Call (.Name x p) [.Call (.Name y p2) [z] [] p3] [] pos, h =>
      cases cm with
      | false => simp [okE] at h
      | true =>
        simp only [okE, Bool.and_eq_true, decide_eq_true_eq, Bool.not_eq_true'] at h
        obtain ⟨⟨⟨⟨⟨⟨⟨_, rfl⟩, rfl⟩, h1⟩, h2⟩, h3⟩, h4⟩, h5⟩ := h
        exact sE_nset c h1 h2 h3 h4 (okE_ok c a z h5 r)
  | .prop cl f Fn a, e, h, r => by
    match e, h with
    | .Attribute x g pos, h =>
      simp only [okE, Bool.and_eq_true, decide_eq_true_eq, Bool.not_eq_true'] at h
      obtain ⟨⟨⟨⟨rfl, rfl⟩, h1⟩, h2⟩, h3⟩ := h
      exact sE_prop c r.1 h2 (okE_ok c a x h3 r.2) h1
  | .meth cl m Fn a l, e, h, r => by
    match e, h with
    | .Call (.Attribute o n apos) (y :: ys) [] pos, h =>
      simp only [okE, Bool.and_eq_true, decide_eq_true_eq, Bool.not_eq_true'] at h
      obtain ⟨⟨⟨⟨⟨⟨rfl, rfl⟩, h1⟩, h2⟩, h3⟩, h4⟩, h5, h6⟩ := h
      exact sE_meth c r.1 rfl h2 (okE_ok c a o h5 r.2.1) (okEs_ok c l _ h6 r.2.2) (okEs_star h6) h3 h1 h4
  | .make n Fn l, e, h, r => by
    match e, h with
    | .Call (.Name x p) (y :: ys) [] pos, h =>
      simp only [okE, Bool.and_eq_true] at h
      obtain ⟨⟨rfl, h1⟩, h2⟩ := h
      obtain ⟨rfl, h3, h4⟩ := gnB_ok h1
      exact sE_make c r.1 rfl h3 h4 (okEs_star h2) (okEs_ok c l _ h2 r.2)
  | .b3 f a b d, e, h, r => by
    match e, h with
    | .Call (.Name x p) [y, z, u] [] pos, h =>
      cases cm with
      | false => simp [okE] at h
      | true =>
        simp only [okE, Bool.and_eq_true, decide_eq_true_eq] at h
        obtain ⟨⟨⟨⟨⟨⟨_, rfl⟩, h1⟩, h2⟩, h3⟩, h3'⟩, h4, h5, h6⟩ := h
        exact sE_b3 c h1 h2 h3 h3' (okE_ok c a y h4 r.1) (okE_ok c b z h5 r.2.1) (okE_ok c d u h6 r.2.2)
  | .isi a t, e, h, r => by
    match e, h with
    | .Call (.Name x p) [y, .Name z p2] [] pos, h =>
      cases cm with
      | false => simp [okE] at h
      | true =>
        simp only [okE, Bool.and_eq_true, decide_eq_true_eq, Bool.not_eq_true', decide_eq_false_iff_not] at h
        obtain ⟨⟨⟨⟨⟨⟨⟨_, rfl⟩, rfl⟩, h1⟩, h2⟩, h3⟩, h4⟩, h5⟩ := h
        exact sE_isi c h1 h2 h3 h4 (okE_ok c a y h5 r)
  | .gfn n, e, h, r => by
    cases e with
    | Name x p => obtain ⟨rfl, h2, h3⟩ := gnB_ok h; exact sE_gfn c r h2 h3
    | _ => exact (Bool.false_ne_true h).elim
  | .callv i ks l, e, h, r => by
    match e, h with
    | .Call (.Name x p) (y :: ys) [] pos, h =>
      cases cm with
      | false => simp [okE] at h
      | true =>
        simp only [okE, Bool.and_eq_true] at h
        obtain ⟨⟨_, h1⟩, h2⟩ := h
        obtain ⟨h3, h4, h5, h6⟩ := nameB_ok h1
        exact sE_callv c h3 h4 h5 h6 r.1 rfl (okEs_star h2) (okEs_ok c l _ h2 r.2)
  | .mk0 n a, e, h, r => by
    match e, h with
    | .Call (.Name x p) [y] [] pos, h =>
      cases cm with
      | false => simp [okE] at h
      | true =>
        simp only [okE, Bool.and_eq_true] at h
        obtain ⟨⟨⟨_, h1⟩, h2⟩, h3⟩ := h
        obtain ⟨rfl, h4, h5⟩ := gnB_ok h1
        exact sE_mk0 c r.1 h4 h5 h2 (okE_ok c a y h3 r.2)
  | .mk1 n f a, e, h, r => by
    match e, h with
    | .Call (.Name x p) [y] [] pos, h =>
      cases cm with
      | false => simp [okE] at h
      | true =>
        simp only [okE, Bool.and_eq_true, Bool.not_eq_true'] at h
        obtain ⟨⟨⟨⟨_, h1⟩, h2⟩, h2'⟩, h3⟩ := h
        obtain ⟨rfl, h4, h5⟩ := gnB_ok h1
        exact sE_mk1 c r.1 h4 h5 h2 h2' (okE_ok c a y h3 r.2)
  | .xfld cl f a, e, h, r => by
    match e, h with
    | .Attribute x g pos, h =>
      cases cm with
      | false => simp [okE] at h
      | true =>
        simp only [okE, Bool.and_eq_true, decide_eq_true_eq, Bool.not_eq_true'] at h
        obtain ⟨⟨⟨⟨_, rfl⟩, h1⟩, h2⟩, h3⟩ := h
        exact sE_xfld c r.1 h1 h2 (okE_ok c a x h3 r.2)
  | .isx a t ks, e, h, r => by
    match e, h with
    | .Call (.Name x p) [y, .Name z p2] [] pos, h =>
      cases cm with
      | false => simp [okE] at h
      | true =>
        simp only [okE, Bool.and_eq_true, decide_eq_true_eq, Bool.not_eq_true'] at h
        obtain ⟨⟨⟨⟨⟨⟨_, rfl⟩, h1⟩, h2⟩, h3⟩, h4⟩, h5⟩ := h
        obtain ⟨rfl, h6, h7⟩ := gnB_ok h2
        exact sE_isx c r.1 h1 h6 h7 h3 h4 (okE_ok c a y h5 r.2)
  | .isb a b, e, h, r => by
    match e, h with
    | .Compare x [.Is] [.Constant (.bool k) _ _] p, h =>
      simp only [okE, Bool.and_eq_true, decide_eq_true_eq] at h
      obtain ⟨rfl, h1⟩ := h
      exact sE_isb c (okE_ok c a x h1 r)
  | .dget1 a k, e, h, r => by
    match e, h with
    | .Call (.Attribute o n apos) [y] [] pos, h =>
      simp only [okE, Bool.and_eq_true, decide_eq_true_eq, Bool.not_eq_true'] at h
      obtain ⟨⟨⟨⟨rfl, h1⟩, h3⟩, h5⟩, h6, h7⟩ := h
      exact sE_dget1 c (okE_ok c a o h6 r.1) (okE_ok c k y h7 r.2) h3 h1 h5
  | .ddis a b, e, h, r => by
    match e, h with
    | .Dict [some y] [z] p, h =>
      simp only [okE, Bool.and_eq_true, Bool.not_eq_true'] at h
      obtain ⟨⟨h1, h2⟩, h6, h7⟩ := h
      exact sE_ddis c h1 h2 (okE_ok c a y h6 r.1) (okE_ok c b z h7 r.2)
  | .dget a k x, e, h, r => by
    match e, h with
    | .Call (.Attribute o n apos) [y, z] [] pos, h =>
      simp only [okE, Bool.and_eq_true, decide_eq_true_eq, Bool.not_eq_true'] at h
      obtain ⟨⟨⟨⟨⟨⟨rfl, h1⟩, h2⟩, h3⟩, h4⟩, h5⟩, h6, h7, h8⟩ := h
      exact sE_dget c h2 (okE_ok c a o h6 r.1) (okE_ok c k y h7 r.2.1) (okE_ok c x z h8 r.2.2) h3 h4 h1 h5
  | .dnew t, e, h, r => by
    match e, h with
    | .Dict [] [] p, h => exact sE_dnew
  | .lend i a, e, h, r => by
    cases e with
    | Call x y z p =>
      have h' : isC a = true ∧ okE N cm a sc (.Call x y z p) = true := by rw [← Bool.and_eq_true]; exact h
      exact sE_lend h'.1 (okE_ok c a _ h'.2 r)
    | _ => exact (Bool.false_ne_true h).elim
  | .rev a, e, h, r => by
    match e, h with
    | .Subscript x (.Slice none none (some (.UnaryOp .USub (.Constant (.int 1) _ _) _)) _) p, h => exact sE_rev (okE_ok c a x h r)
theorem okAnd_ok {X : Cx} {F : Fx} {W : WX} {sc : Scope} {tn : List (Str × NameKind)} {cm : Bool} (c : Cxt F W X N sc tn cm lv) : ∀ (l : IEs) (xs : List Expr), okV N cm l sc xs = true → reqEs (gl X) lv l → ∀ {p : Pos}, PE X (.BoolOp .And xs p) (vAnd (gl X) F W l)
  | .nil, _, h, _, _ => (Bool.false_ne_true h).elim
  | .cons a r, xs, h, q, p => by
    match r, xs, h, q with
    | .nil, [x], h, q => exact sV_and1 (okE_ok c a x (show okE N cm a sc x = true from h) q.1)
    | .cons b r, x :: y :: ys, h, q =>
      have h' : (okE N cm a sc x && okV N cm (.cons b r) sc (y :: ys)) = true := h
      rw [Bool.and_eq_true] at h'
      exact sV_and (okE_ok c a x h'.1 q.1) (okAnd_ok c (.cons b r) (y :: ys) h'.2 q.2)
theorem okOr_ok {X : Cx} {F : Fx} {W : WX} {sc : Scope} {tn : List (Str × NameKind)} {cm : Bool} (c : Cxt F W X N sc tn cm lv) : ∀ (l : IEs) (xs : List Expr), okV N cm l sc xs = true → reqEs (gl X) lv l → ∀ {p : Pos}, PE X (.BoolOp .Or xs p) (vOr (gl X) F W l)
  | .nil, _, h, _, _ => (Bool.false_ne_true h).elim
  | .cons a r, xs, h, q, p => by
    match r, xs, h, q with
    | .nil, [x], h, q => exact sV_or1 (okE_ok c a x (show okE N cm a sc x = true from h) q.1)
    | .cons b r, x :: y :: ys, h, q =>
      have h' : (okE N cm a sc x && okV N cm (.cons b r) sc (y :: ys)) = true := h
      rw [Bool.and_eq_true] at h'
      exact sV_or (okE_ok c a x h'.1 q.1) (okOr_ok c (.cons b r) (y :: ys) h'.2 q.2)
theorem okQ_ok {X : Cx} {F : Fx} {W : WX} {sc : Scope} {tn : List (Str × NameKind)} {cm : Bool} (c : Cxt F W X N sc tn cm lv) : ∀ (a : IQ) (e : Expr), okQ N cm a sc e = true → reqQ (gl X) lv a → PT X e (tT (gl X) F W a)
  | .v a, e, h, r => by
    have h' : (plainTest e || leafT a) = true ∧ okE N cm a sc e = true := by
      rw [← Bool.and_eq_true]; exact h
    by_cases hp : plainTest e = true
    · exact sT_plain hp (okE_ok c a e h'.2 r)
    · have hp' : plainTest e = false := by simpa using hp
      rw [hp', Bool.false_or] at h'
      cases a with
      | cmp op a b =>
        match e, h'.2 with
        | .Compare x [o] [y] p, h =>
          simp only [okE, Bool.and_eq_true, decide_eq_true_eq] at h
          obtain ⟨⟨rfl, hn⟩, h1, h2⟩ := h
          exact sT_cmp c (okE_ok c a x h1 r.1) (okE_ok c b y h2 r.2) hn
      | chain o1 o2 a b d =>
        match e, h'.2 with
        | .Compare x [p1, p2] [y, z] p, h =>
          simp only [okE, Bool.and_eq_true, decide_eq_true_eq] at h
          obtain ⟨⟨⟨rfl, rfl⟩, hn⟩, h1, h2, h3⟩ := h
          exact sT_chain c (okE_ok c a x h1 r.1) (okE_ok c b y h2 r.2.1) (okE_ok c d z h3 r.2.2) hn
      | isN a =>
        match e, h'.2 with
        | .Compare x [.Is] [.Constant .none _ _] p, h => exact sT_isN (okE_ok c a x h r)
      | notN a =>
        match e, h'.2 with
        | .Compare x [.IsNot] [.Constant .none _ _] p, h => exact sT_notN (okE_ok c a x h r)
      | isb a b =>
        match e, h'.2 with
        | .Compare x [.Is] [.Constant (.bool k) _ _] p, h =>
          simp only [okE, Bool.and_eq_true, decide_eq_true_eq] at h
          obtain ⟨rfl, h1⟩ := h
          exact sT_isb c (okE_ok c a x h1 r)
      | _ => exact (Bool.false_ne_true h'.1).elim
  | .and l, e, h, r => by
    match e, h with
    | .BoolOp .And xs p, h => exact sT_and (okAndT_ok c l xs h r)
  | .or l, e, h, r => by
    match e, h with
    | .BoolOp .Or xs p, h => exact sT_or (okOrT_ok c l xs h r)
  | .not a, e, h, r => by
    match e, h with
    | .UnaryOp .Not x p, h => exact sT_not (okQ_ok c a x h r)
theorem okAndT_ok {X : Cx} {F : Fx} {W : WX} {sc : Scope} {tn : List (Str × NameKind)} {cm : Bool} (c : Cxt F W X N sc tn cm lv) : ∀ (l : IQs) (xs : List Expr), okQs N cm l sc xs = true → reqQs (gl X) lv l → ∀ {p : Pos}, PW X (.BoolOp .And xs p) (tAnd' (gl X) F W l)
  | .nil, _, h, _, _ => (Bool.false_ne_true h).elim
  | .cons a r, xs, h, q, p => by
    match r, xs, h, q with
    | .nil, [x], h, q => exact sW_and1 (okQ_ok c a x (show okQ N cm a sc x = true from h) q.1)
    | .cons b r, x :: y :: ys, h, q =>
      have h' : (okQ N cm a sc x && okQs N cm (.cons b r) sc (y :: ys)) = true := h
      rw [Bool.and_eq_true] at h'
      exact sW_and (okQ_ok c a x h'.1 q.1) (okAndT_ok c (.cons b r) (y :: ys) h'.2 q.2)
theorem okOrT_ok {X : Cx} {F : Fx} {W : WX} {sc : Scope} {tn : List (Str × NameKind)} {cm : Bool} (c : Cxt F W X N sc tn cm lv) : ∀ (l : IQs) (xs : List Expr), okQs N cm l sc xs = true → reqQs (gl X) lv l → ∀ {p : Pos}, PW X (.BoolOp .Or xs p) (tOr' (gl X) F W l)
  | .nil, _, h, _, _ => (Bool.false_ne_true h).elim
  | .cons a r, xs, h, q, p => by
    match r, xs, h, q with
    | .nil, [x], h, q => exact sW_or1 (okQ_ok c a x (show okQ N cm a sc x = true from h) q.1)
    | .cons b r, x :: y :: ys, h, q =>
      have h' : (okQ N cm a sc x && okQs N cm (.cons b r) sc (y :: ys)) = true := h
      rw [Bool.and_eq_true] at h'
      exact sW_or (okQ_ok c a x h'.1 q.1) (okOrT_ok c (.cons b r) (y :: ys) h'.2 q.2)
theorem okC_ok {X : Cx} {F : Fx} {W : WX} {sc : Scope} {tn : List (Str × NameKind)} {cm : Bool} (c : Cxt F W X N sc tn cm lv) : ∀ (l : IQs) (xs : List Expr), okC N cm l sc xs = true → reqQs (gl X) lv l → PTs X xs (tC' (gl X) F W l)
  | .nil, xs, h, q => by
    match xs, h with
    | [], _ =>
      refine ⟨fun pins s σ H Q I hh => pts_nil.run pins s σ H Q I ?_⟩
      obtain ⟨P, st, hs, hf⟩ := hh
      exact FinG.at_ hs.ex hf
  | .cons a r, xs, h, q => by
    match r, xs, h, q with
    | .nil, [x], h, q =>
      have h' : okQ N cm a sc x = true := h
      refine ⟨fun pins s σ H Q I hh => (pts_one (okQ_ok c a x h' q.1)).run pins s σ H Q I ?_⟩
      obtain ⟨P, st, hs, hf⟩ := hh
      exact ⟨P, st, hs, by simpa only [evC] using hf⟩
theorem okEs_ok {X : Cx} {F : Fx} {W : WX} {sc : Scope} {tn : List (Str × NameKind)} {cm : Bool} (c : Cxt F W X N sc tn cm lv) : ∀ (l : IEs) (xs : List Expr), okEs N cm l sc xs = true → reqEs (gl X) lv l → PA X xs (tAs (gl X) F W l)
  | .nil, xs, h, q => by
    match xs, h with
    | [], _ => exact sA_nil
  | .cons a r, xs, h, q => by
    match xs, h with
    | x :: xs, h =>
      simp only [okEs, Bool.and_eq_true, Bool.not_eq_true'] at h
      exact sA_cons h.1.1 h.1.2 (okE_ok c a x h.2.1 q.1) (okEs_ok c r xs h.2.2 q.2)
theorem okO_ok {X : Cx} {F : Fx} {W : WX} {sc : Scope} {tn : List (Str × NameKind)} {cm : Bool} (c : Cxt F W X N sc tn cm lv) : ∀ (o : IO) (x : Option Expr), okO N cm o sc x = true → reqO (gl X) lv o → PO X x (tO' (gl X) F W o)
  | .no, x, h, q => by
    match x, h with
    | none, _ => exact sO_no
  | .some a, x, h, q => by
    match x, h with
    | some x, h => exact sO_some (okE_ok c a x h q)
theorem okI_ok {X : Cx} {F : Fx} {W : WX} {sc : Scope} {tn : List (Str × NameKind)} {cm : Bool} (c : Cxt F W X N sc tn cm lv) : ∀ (o : IT) (tg x : Expr), okI N cm o sc tg x = true → reqI (gl X) lv o → PI X tg x (tI (gl X) F W o)
  | .vals a, tg, x, h, q => by
    match x, h with
    | .Call (.Attribute o n apos) [] [] pos, h =>
      simp only [okI, Bool.and_eq_true, decide_eq_true_eq, Bool.not_eq_true'] at h
      obtain ⟨⟨⟨⟨rfl, h1⟩, h2⟩, h3⟩, h4⟩ := h
      exact sI_vals h2 (okE_ok c a o h4 q) h1 h3
  | .keys a, tg, x, h, q => by
    simp only [okI, Bool.and_eq_true, Bool.not_eq_true'] at h
    exact sI_keys h.1 (okE_ok c a x h.2 q)
  | .seq a, tg, x, h, q => by
    simp only [okI, Bool.and_eq_true, Bool.not_eq_true'] at h
    exact sI_seq h.1 (okE_ok c a x h.2 q)
  | .r1 a, tg, x, h, q => by
    match x, h with
    | .Call (.Name x p) [y] [] pos, h =>
      simp only [okI, Bool.and_eq_true, decide_eq_true_eq] at h
      obtain ⟨⟨⟨rfl, h1⟩, h2⟩, h3⟩ := h
      exact sI_r1 c h1 h2 (okE_ok c a y h3 q)
  | .r2 a b, tg, x, h, q => by
    match x, h with
    | .Call (.Name x p) [y, z] [] pos, h =>
      simp only [okI, Bool.and_eq_true, decide_eq_true_eq] at h
      obtain ⟨⟨⟨⟨rfl, h1⟩, h2⟩, h3⟩, h4, h5⟩ := h
      exact sI_r2 c h1 h2 h3 (okE_ok c a y h4 q.1) (okE_ok c b z h5 q.2)
  | .enum a, tg, x, h, q => by
    match tg, x, h with
    | .Tuple _ _ _, .Call (.Name x p) [y] [] pos, h =>
      simp only [okI, Bool.and_eq_true, decide_eq_true_eq, Bool.not_eq_true'] at h
      obtain ⟨⟨⟨⟨rfl, h1⟩, h2⟩, h3⟩, h4⟩ := h
      exact sI_enum c h3 h1 h2 (okE_ok c a y h4 q)
  | .zip a b, tg, x, h, q => by
    match tg, x, h with
    | .Tuple _ _ _, .Call (.Name x p) [y, z] [] pos, h =>
      simp only [okI, Bool.and_eq_true, decide_eq_true_eq, Bool.not_eq_true'] at h
      obtain ⟨⟨⟨⟨⟨⟨rfl, h1⟩, h2⟩, h3⟩, h4⟩, h5⟩, h6, h7⟩ := h
      exact sI_zip c h4 h5 h1 h2 h3 (okE_ok c a y h6 q.1) (okE_ok c b z h7 q.2)
end
end
end M
set_option Elab.async false
set_option linter.all false
set_option maxRecDepth 100000
set_option maxHeartbeats 4000000
/-! M, part K: statements. -/
namespace M
open PySem L2 PySem.Spec PyProof.Rows

mutual
inductive IS where
  | asg (p : Pat) (e : IE) | own (i : Nat) (e : IE) | par (i j : Nat) (a b : IE) | par3 (i j k : Nat) (a b c : IE) | aug (i : Nat) (op : BOp) (e : IE)
  | app (i : Nat) (e : IE) | ext (i : Nat) (e : IE) | seti (i : Nat) (k e : IE) | setf (i : Nat) (c f : Str) (e : IE)
  | pop0 (t j : Nat) | popI (t j : Nat) (k : IE) | pop0d (j : Nat) | popId (j : Nat) (k : IE)
  | drop (e : IE) | ret (e : IE) | retN | pass | brk | cont
  | ife (c : IQ) (t f : ISs) | for_ (p : Pat) (it : IT) (b : ISs) | while_ (c : IQ) (b : ISs)
  | try_ (ks : List Str) (b : ISs) (h : IHs) | raise0 (c : Str) | raise1 (c f : Str) (e : IE) | dead
  | frz (i : Nat) | cal (n : Str) (F : List D → R (D × List D)) (ps : List (Nat × Nat)) (l : IEs)
  | calO (n : Str) (F : List D → R (List D)) (i j : Nat) (l : IEs)
inductive ISs where
  | nil | cons (a : IS) (r : ISs)
inductive IHs where
  | nil | cons (c : Str) (sub : List Str) (i : Option Nat) (b : ISs) (r : IHs)
end
/-- how a statement ends -/
inductive Fl where
  | nx (st : ES) | rt (d : D) (st : ES) | bk (st : ES) | ct (st : ES) | er (c : Str) (p : Option (Str × D)) (st : ES) | no
def bindF {α : Type} (r : R α) (st : ES) (k : α → Fl) : Fl := match r with
  | .ok a => k a
  | .err c p => .er c p st
  | .bad => .no
@[simp] theorem bindF_ok {α : Type} (a : α) (st : ES) (k : α → Fl) : bindF (.ok a) st k = k a := rfl
@[simp] theorem bindF_err {α : Type} (c : Str) (p : Option (Str × D)) (st : ES) (k : α → Fl) : bindF (.err c p) st k = .er c p st := rfl
@[simp] theorem bindF_bad {α : Type} (st : ES) (k : α → Fl) : bindF .bad st k = .no := rfl
def nxR (r : R ES) : Fl := match r with
  | .ok st => .nx st
  | _ => .no
/-- what stands at a slot of one's own (or handed in) -/
def ownD (st : ES) (i : Nat) : Option D := match st[i]? with
  | some (.own d) => some d
  | some (.par d) => some d
  | _ => none
def putO (st : ES) (i : Nat) (d : D) : ES := match st[i]? with
  | some (.own _) => st.set i (.own d)
  | some (.par _) => st.set i (.par d)
  | _ => st
/-- what a call has changed: places of its arguments, and slots -/
def wrO : List (Nat × Nat) → List D → ES → Option ES
  | [], _, st => some st
  | (k, i) :: ps, nd, st => match nd[k]?, ownD st i with
    | some d, some _ => wrO ps nd (putO st i d)
    | _, _ => none
def putN (f : Str) (d : D) : List Str → List D → List Str × List D
  | n :: ns, x :: xs => if n = f then (n :: ns, d :: xs) else ((n :: (putN f d ns xs).1), (x :: (putN f d ns xs).2))
  | _, _ => ([f], [d])
def augF (i : Nat) (op : BOp) (a : Int) (st : ES) : D → Fl
  | .int b => match op with
    | .add => nxR (setv st i (.val (.int (a + b))))
    | .sub => nxR (setv st i (.val (.int (a - b))))
    | _ => .no
  | _ => .no
def forRun (bind : D → ES → R ES) (body : ES → Fl) : List D → ES → Fl
  | [], st => .nx st
  | x :: r, st => match bind x st with
    | .ok st1 => match body st1 with
      | .nx st2 => forRun bind body r st2
      | .ct st2 => forRun bind body r st2
      | .bk st2 => .nx st2
      | .rt d st2 => .rt d st2
      | .er c p st2 => .er c p st2
      | .no => .no
    | _ => .no
def whRun (test : ES → R Bool) (body : ES → Fl) : Nat → ES → Fl
  | 0, _ => .no
  | n + 1, st => bindF (test st) st fun b => if b = true then (match body st with
      | .nx st2 => whRun test body n st2
      | .ct st2 => whRun test body n st2
      | .bk st2 => .nx st2
      | .rt d st2 => .rt d st2
      | .er c p st2 => .er c p st2
      | .no => .no) else .nx st
def thenF (r : Fl) (k : ES → Fl) : Fl := match r with
  | .nx st => k st
  | x => x
def isExc : Sl → Bool
  | .exc _ _ _ => true
  | _ => false
/-- a slot let go behind a suite; no exception stands any more -/
def unO (st : ES) : Option Nat → ES
  | none => st
  | some i => st.set i .un
def outF (r : Fl) (i : Option Nat) : Fl := match r with
  | .nx st => if (unO st i).all (fun s => !isExc s) = true then .nx (unO st i) else .no
  | .bk st => if (unO st i).all (fun s => !isExc s) = true then .bk (unO st i) else .no
  | .ct st => if (unO st i).all (fun s => !isExc s) = true then .ct (unO st i) else .no
  | .rt d st => if (unO st i).all (fun s => !isExc s) = true then .rt d (unO st i) else .no
  | _ => .no
/-- the slot of the exception at hand -/
def inO (c : Str) (p : Option (Str × D)) (st : ES) : Option Nat → R ES
  | none => .ok st
  | some i => match p with
    | some (f, d) => setv st i (.exc c f d)
    | none => setv st i .un
mutual
def evS (fu : Nat) : IS → ES → Fl
  | .asg p e, st => bindF (evE e st) st fun d => nxR (bindP p d st)
  | .own i e, st => bindF (evE e st) st fun d => if frE e d = true then nxR (setv st i (.own d)) else .no
  | .par i j a b, st => bindF (evEs (.cons a (.cons b .nil)) st) st fun ds => match ds with
    | [x, y] => nxR ((setv st i (.val x)).bind fun s => setv s j (.val y))
    | _ => .no
  | .par3 i j k a b c, st => bindF (evEs (.cons a (.cons b (.cons c .nil))) st) st fun ds => match ds with
    | [x, y, z] => nxR ((setv st i (.val x)).bind fun s => (setv s j (.val y)).bind fun s => setv s k (.val z))
    | _ => .no
  | .aug i op e, st => match getv st i with
    | .ok (.int a) => bindF (evE e st) st fun d => augF i op a st d
    | _ => .no
  | .app i e, st => match ownD st i with
    | some (.lst l) => bindF (evE e st) st fun d => if l.length < LIM then .nx (putO st i (.lst (l ++ [d]))) else .no
    | _ => .no
  | .ext i e, st => match ownD st i with
    | some (.lst l) => bindF (evE e st) st fun d => match d with
      | .lst m => if l.length + m.length ≤ LIM then .nx (putO st i (.lst (l ++ m))) else .no
      | _ => .no
    | _ => .no
  | .seti i k e, st => match ownD st i with
    | some (.lst l) => bindF (evE e st) st fun d => bindF (evE k st) st fun x => match x with
      | .int n => match ixN l.length n with
        | some j => .nx (putO st i (.lst (l.set j d)))
        | none => .no
      | _ => .no
    | some (.dic t ks vs) => bindF (evE e st) st fun d => bindF (evE k st) st fun x => match dputD t ks vs x d with
      | .ok d' => .nx (putO st i d')
      | _ => .no
    | _ => .no
  | .setf i c f e, st => match ownD st i with
    | some (.obj c' ns ds) => bindF (evE e st) st fun d => if c' = c ∧ ns.length < 900 then .nx (putO st i (.obj c (putN f d ns ds).1 (putN f d ns ds).2)) else .no
    | _ => .no
  | .pop0 t j, st => match ownD st j with
    | some (.lst l) => match l[l.length - 1]? with
      | some d => nxR (setv (putO st j (.lst l.dropLast)) t (.val d))
      | none => .no
    | _ => .no
  | .popI t j k, st => match ownD st j with
    | some (.lst l) => bindF (evE k st) st fun x => match x with
      | .int n => match seqIndex? n l.length with
        | some m => match l[m]? with
          | some d => if -1000000 < n ∧ n < 1000000 then nxR (setv (putO st j (.lst (l.eraseIdx m))) t (.val d)) else .no
          | none => .no
        | none => .no
      | _ => .no
    | _ => .no
  | .pop0d j, st => match ownD st j with
    | some (.lst l) => match l[l.length - 1]? with
      | some d => .nx (putO st j (.lst l.dropLast))
      | none => .no
    | _ => .no
  | .popId j k, st => match ownD st j with
    | some (.dic false ks vs) => bindF (evE k st) st fun x => if keyOk false x = true ∧ memK ks x = true then .nx (putO st j (.dic false (dropD ks vs x).1 (dropD ks vs x).2)) else .no
    | some (.lst l) => bindF (evE k st) st fun x => match x with
      | .int n => match seqIndex? n l.length with
        | some m => match l[m]? with
          | some d => if -1000000 < n ∧ n < 1000000 then .nx (putO st j (.lst (l.eraseIdx m))) else .no
          | none => .no
        | none => .no
      | _ => .no
    | _ => .no
  | .drop e, st => bindF (evE e st) st fun _ => .nx st
  | .ret e, st => bindF (evE e st) st fun d => .rt d st
  | .retN, st => .rt .non st
  | .pass, st => .nx st
  | .brk, st => .bk st
  | .cont, st => .ct st
  | .ife c t f, st => bindF (evT c st) st fun k => if k = true then evSs fu t st else evSs fu f st
  | .for_ p it b, st => bindF (evI it st) st fun l => forRun (bindP p) (fun s => evSs fu b s) l st
  | .while_ c b, st => whRun (fun s => evT c s) (fun s => evSs fu b s) fu st
  | .try_ ks b h, st => match evSs fu b st with
    | .er c p st1 => if c ∈ ks then evH fu h c p st1 else .no
    | r => r
  | .dead, _ => .no
  | .raise0 c, st => .er c none st
  | .raise1 c f e, st => bindF (evE e st) st fun d => .er c (some (f, d)) st
  | .cal _ F ps l, st => bindF (evEs l st) st fun ds => match F ds with
    | .ok (_, nd) => match wrO ps nd st with
      | some st' => .nx st'
      | none => .no
    | _ => .no
  | .calO _ F i j l, st => bindF (evEs l st) st fun ds => match F ds with
    | .ok nd => match nd with
      | [x, y] => nxR ((setv st i (.own x)).bind fun s => setv s j (.own y))
      | _ => .no
    | _ => .no
  | .frz i, st => match st[i]? with
    | some (.own d) => .nx (st.set i (.val d))
    | some (.val _) => .nx st
    | _ => .no
def evSs (fu : Nat) : ISs → ES → Fl
  | .nil, st => .nx st
  | .cons a r, st => thenF (evS fu a st) fun s => evSs fu r s
def evH (fu : Nat) : IHs → Str → Option (Str × D) → ES → Fl
  | .nil, c, p, st => .er c p st
  | .cons _ sub i b r, c, p, st => if c ∈ sub then (match inO c p st i with
      | .ok st1 => outF (evSs fu b st1) i
      | _ => .no) else evH fu r c p st
end
example (fu : Nat) (a : IS) (r : ISs) (st : ES) : evSs fu (.cons a r) st = thenF (evS fu a st) fun s => evSs fu r s := rfl

/-! ### the reading of statements -/
structure GrS (F : Fx) (P P' : Hp) : Prop where
  pp : Same P P'
  nw : ∀ a o, P' a = some o → P a = some o ∨ NewAt F.B a o
theorem GrS.refl {F : Fx} {P : Hp} : GrS F P P := ⟨Same.refl _, fun _ _ e => .inl e⟩
theorem GrS.trans {F : Fx} {P P1 P2 : Hp} (a : GrS F P P1) (b : GrS F P1 P2) : GrS F P P2 := ⟨a.pp.trans b.pp, fun x o e => by
  rcases b.nw x o e with z | z
  · exact a.nw x o z
  · exact .inr z⟩
theorem Gr.toS {F : Fx} {P H P' H' : Hp} (s : Same F.B H) (g : Gr P H P' H') : GrS F P P' := ⟨g.pp, fun x o e => by
  rcases g.nw x o e with z | z
  · exact .inl z
  · exact .inr (z.back s)⟩
def PostS (G : Glob) (F : Fx) (W : WX) (D : Ends) (P : Hp) : Fl → Prop
  | .nx st => ∀ σ' P' H', GrS F P P' → StOk G F P' H' σ' st → D.nx σ' H'
  | .rt d st => ∀ v σ' P' H', GrS F P P' → StOk G F P' H' σ' st → Rep G P' d v → D.rt v H'
  | .bk st => ∀ σ' P' H', GrS F P P' → StOk G F P' H' σ' st → D.bk σ' H'
  | .ct st => ∀ σ' P' H', GrS F P P' → StOk G F P' H' σ' st → D.ct σ' H'
  | .er c p st => ∀ σ' P' H' cls dx, GrS F P P' → StOk G F P' H' σ' st → ExcAt G P' c p cls dx → W cls dx σ' H'
  | .no => False
section
variable {G : Glob} {F : Fx} {W : WX} {P H : Hp} {σ : L2.St} {st : ES} {D : Ends}
theorem PostS.move {P1 : Hp} {r : Fl} (h : PostS G F W D P r) (g : GrS F P P1) : PostS G F W D P1 r := by
  cases r with
  | nx st => exact fun σ' P' H' g' => h σ' P' H' (g.trans g')
  | rt d st => exact fun v σ' P' H' g' => h v σ' P' H' (g.trans g')
  | bk st => exact fun σ' P' H' g' => h σ' P' H' (g.trans g')
  | ct st => exact fun σ' P' H' g' => h σ' P' H' (g.trans g')
  | er c p st => exact fun σ' P' H' cls dx g' => h σ' P' H' cls dx (g.trans g')
  | no => exact h
theorem F_bind {α : Type} {r : R α} {k : α → Fl} {K' : α → Hp → Hp → Prop} (hs : StOk G F P H σ st) (h : PostS G F W D P (bindF r st k))
    (hk : ∀ a P1 H1, r = .ok a → Gr P H P1 H1 → PostS G F W D P (k a) → K' a P1 H1) : FinG G W σ P H r K' := by
  cases r with
  | ok a => exact fun P1 H1 g => hk a P1 H1 rfl g h
  | err c p => exact fun P' H' cls dx g x => h σ P' H' cls dx (g.toS hs.exB) (hs.grow g) x
  | bad => exact h
/-- a value put among what is for good -/
theorem FE_bind {a : IE} {k : M.D → Fl} {Q : VK} (hb : isB a = false) (hs : StOk G F P H σ st) (h : PostS G F W D P (bindF (evE a st) st k))
    (hk : ∀ d v P1 H1, evE a st = .ok d → Gr P H P1 H1 → Rep G P1 d v → PostS G F W D P1 (k d) → Q v H1) : tE G F W a σ H Q :=
  ⟨P, st, hs, F_bind hs h fun d P1 H1 e g f v r => by
    obtain ⟨P2, g2, _, r2⟩ := r.store hb g
    exact hk d v P2 H1 e g2 r2 (f.move (g2.toS hs.exB))⟩
/-- the thing at a slot of one's own is changed -/
theorem StOk.write (hs : StOk G F P H σ st) {i : Nat} {a : Addr} {d d' : M.D} {o : HO} (hi : ownD st i = some d) (ha : σ[i]? = some (some (V.ref a))) (c : Cont G P d' o) :
    F.B a = none ∧ P a = none ∧ OwnAt G P H a d ∧ StOk G F P (upd H a o) σ (putO st i d') := by
  have key : ∃ s s', st[i]? = some s ∧ isOwn s = true ∧ putO st i d' = st.set i s' ∧ F.B a = none ∧ OwnAt G P H a d ∧ (∀ H' : Hp, OwnAt G P H' a d' → SlOk G F P H' i s' (some (V.ref a))) ∧ isOwn s' = true := by
    unfold ownD at hi
    split at hi
    · rename_i x hx
      cases hi
      obtain ⟨b, e1, e2, e3⟩ := hs.slot i _ _ hx ha
      cases e1
      exact ⟨_, .own d', hx, rfl, by unfold putO; rw [hx], e2, e3, fun H' h => ⟨a, rfl, e2, h⟩, rfl⟩
    · rename_i x hx
      cases hi
      obtain ⟨b, e1, e0, e2, e3⟩ := hs.slot i _ _ hx ha
      cases e1
      exact ⟨_, .par d', hx, rfl, by unfold putO; rw [hx], e2, e3, fun H' h => ⟨a, rfl, e0, e2, h⟩, rfl⟩
    · cases hi
  obtain ⟨s, s', h1, h2, h3, h4, h5, h6, h7⟩ := key
  refine ⟨h4, h5.no, h5, ?_⟩
  have hlen : i < st.length := (List.getElem?_eq_some_iff.mp h1).1
  rw [h3]
  have own' : OwnAt G P (upd H a o) a d' := ⟨h5.no, o, upd_same, c⟩
  refine ⟨by rw [List.length_set]; exact hs.len, fun b x q => ?_, fun b x q => ?_, fun j t ov e1 e2 => ?_, fun j k t u b hjk e1 e2 o1 o2 q1 q2 => ?_⟩
  · rw [upd_ne (ne_of_none q h5.no)]; exact hs.ex _ _ q
  · rw [upd_ne (ne_of_none q h4)]; exact hs.exB _ _ q
  · by_cases hj : i = j
    · subst hj
      rw [List.getElem?_set_self hlen] at e1
      rw [ha] at e2
      cases e1; cases e2
      exact h6 _ own'
    · rw [List.getElem?_set_ne hj] at e1
      have old := hs.slot j t ov e1 e2
      have nb : ∀ b, ov = some (V.ref b) → isOwn t = true → b ≠ a := fun b eb ot z => by
        subst eb z
        exact hs.dist i j s t b hj h1 e1 h2 ot ha e2
      cases t with
      | un => trivial
      | val d => exact old
      | own d =>
        obtain ⟨b, rfl, eb, ob, o2, k1, k2⟩ := old
        exact ⟨b, rfl, eb, ob, o2, by rw [upd_ne (nb b rfl rfl)]; exact k1, k2⟩
      | par d =>
        obtain ⟨b, rfl, e0, eb, ob, o2, k1, k2⟩ := old
        exact ⟨b, rfl, e0, eb, ob, o2, by rw [upd_ne (nb b rfl rfl)]; exact k1, k2⟩
      | exc c f d => exact old
  · by_cases hj : i = j
    · subst hj
      rw [List.getElem?_set_self hlen] at e1
      by_cases hk : i = k
      · exact hjk hk
      · rw [List.getElem?_set_ne hk] at e2
        exact hs.dist i k s u b hk h1 e2 h2 o2 q1 q2
    · rw [List.getElem?_set_ne hj] at e1
      by_cases hk : i = k
      · subst hk
        exact hs.dist j i t s b hjk e1 h1 o1 h2 q1 q2
      · rw [List.getElem?_set_ne hk] at e2
        exact hs.dist j k t u b hjk e1 e2 o1 o2 q1 q2
theorem own_at (hs : StOk G F P H σ st) {i : Nat} {d : M.D} (hi : ownD st i = some d) : ∃ a, σ[i]? = some (some (V.ref a)) ∧ OwnAt G P H a d ∧ F.B a = none := by
  unfold ownD at hi
  split at hi
  · rename_i x hx
    cases hi
    obtain ⟨o, e, a, rfl, h1, h2⟩ := hs.at_ hx
    exact ⟨a, e, h2, h1⟩
  · rename_i x hx
    cases hi
    obtain ⟨o, e, a, rfl, _, h1, h2⟩ := hs.at_ hx
    exact ⟨a, e, h2, h1⟩
  · cases hi
end
def tS (G : Glob) (F : Fx) (W : WX) (fu : Nat) (s : IS) : TS := fun D σ H => ∃ P st, StOk G F P H σ st ∧ PostS G F W D P (evS fu s st)
def tSs (G : Glob) (F : Fx) (W : WX) (fu : Nat) (s : ISs) : TS := fun D σ H => ∃ P st, StOk G F P H σ st ∧ PostS G F W D P (evSs fu s st)
section
variable {X : Cx}
theorem _root_.L2.PS.weak {s : Stmt} {t t' : TS} (h : PS X s t) (w : ∀ D σ H, t' D σ H → t D σ H) : PS X s t' := ⟨fun pins s σ H D I q => h.run pins s σ H D I (w D σ H q)⟩
theorem _root_.L2.PSs.weak {s : List Stmt} {t t' : TS} (h : PSs X s t) (w : ∀ D σ H, t' D σ H → t D σ H) : PSs X s t' := ⟨fun pins s σ H D I q => h.run pins s σ H D I (w D σ H q)⟩
end

/-! ### side conditions -/
def notComp : Expr → Bool
  | .ListComp _ _ _ _ => false
  | .SetComp _ _ _ _ => false
  | .DictComp _ _ _ _ _ => false
  | _ => true
theorem swaps_no {e : Expr} {t : Option Expr} {l : Nat} {env : Env} (h : notComp e = true) : swapsWith e t l env = pure false := by
  cases e <;> first | rfl | cases h
/-- a comprehension given to a name that is a cell -/
theorem swaps_cell {e : Expr} {y : Str} {py : Pos} {l : Nat} {env : Env} (hy : env.scope.names.lookup y = some .cell) : swapsWith e (some (.Name y py)) l env = pure false := by
  have hk : (env.kindOf y == some .local) = false := by unfold Env.kindOf; rw [hy]; rfl
  cases e <;> first
    | rfl
    | (unfold swapsWith
       simp only [hk, Bool.and_false, Bool.false_and]
       try rfl)
theorem swaps_tup {e : Expr} {es : List Expr} {k : Nat} {py : Pos} {l : Nat} {env : Env} : swapsWith e (some (.Tuple es k py)) l env = pure false := by
  cases e <;> rfl
theorem swaps_sub {e a b : Expr} {py : Pos} {l : Nat} {env : Env} : swapsWith e (some (.Subscript a b py)) l env = pure false := by
  cases e <;> rfl
theorem swaps_att {e a : Expr} {f : Str} {py : Pos} {l : Nat} {env : Env} : swapsWith e (some (.Attribute a f py)) l env = pure false := by
  cases e <;> rfl
def notTupE : Expr → Bool
  | .Tuple _ _ _ => false
  | _ => true
theorem swapped_name {x : Str} {p : Pos} {e : Expr} {env : Env} : swappedStores [.Name x p] e env = pure none := by
  unfold swappedStores; rfl
theorem swapped_sub {a b e : Expr} {p : Pos} {env : Env} : swappedStores [.Subscript a b p] e env = pure none := by
  unfold swappedStores; rfl
theorem swapped_tup {ts : List Expr} {k : Nat} {p : Pos} {e : Expr} {env : Env} (h : notTupE e = true) : swappedStores [.Tuple ts k p] e env = pure none := by
  cases e <;> first | (unfold swappedStores; rfl) | cases h
end M
set_option Elab.async false
set_option linter.all false
set_option maxRecDepth 100000
set_option maxHeartbeats 4000000
/-! M, part L: statements, piece by piece. -/
namespace M
open PySem L2 PySem.Spec PyProof.Rows

/-! ### swaps -/
def isLocB (sc : Scope) (x : Str) : Bool := match sc.names.lookup x with
  | some .local => true
  | _ => false
def isCellB (sc : Scope) (x : Str) : Bool := match sc.names.lookup x with
  | some .cell => true
  | _ => false
theorem isLoc_of {sc : Scope} {x : Str} (h : isLocB sc x = true) : sc.names.lookup x = some .local := by
  unfold isLocB at h; split at h <;> first | assumption | cases h
theorem isCell_of {sc : Scope} {x : Str} (h : isCellB sc x = true) : sc.names.lookup x = some .cell := by
  unfold isCellB at h; split at h <;> first | assumption | cases h
theorem swaps_line {elt : Expr} {gs : List Comprehension} {scope : Scope} {pos py : Pos} {y : Str} {l : Nat} {env : Env} (hl : (py.line == pos.line) = false) :
    swapsWith (.ListComp elt gs scope pos) (some (.Name y py)) l env = pure false := by
  unfold swapsWith
  simp only [Expr.pos, hl, Bool.and_false, Bool.false_and]
  try rfl
def par2B (sc : Scope) (x y : Str) (px py : Pos) (vs : List Expr) : Bool :=
  isLocB sc x && isLocB sc y && (px.line == py.line) && !(x == y) && vs.all notStar && !(vs.all (foldedForSure 8)) && !(vs.all (constantsAlone 8)) && (vs.length == 2)
def par3B (sc : Scope) (x y z : Str) (px py pz : Pos) (vs : List Expr) : Bool :=
  isLocB sc x && isLocB sc y && isLocB sc z && (px.line == py.line) && (px.line == pz.line) && !(x == y) && !(x == z) && !(y == z) && vs.all notStar && !(vs.all (foldedForSure 8)) && !(vs.all (constantsAlone 8)) && (vs.length == 3)
theorem any_star {vs : List Expr} (h : vs.all notStar = true) : (vs.any fun | .Starred .. => true | _ => false) = false := by
  induction vs with
  | nil => rfl
  | cons v vs ih =>
    rw [List.all_cons, Bool.and_eq_true] at h
    rw [List.any_cons, ih h.2, Bool.or_false]
    cases v <;> first | rfl | exact (Bool.false_ne_true h.1).elim
theorem swapped2 {x y : Str} {px py pt p2 : Pos} {kt k2 : Nat} {vs : List Expr} {env : Env} (hk : env.scope.kind = .function) (h : par2B env.scope x y px py vs = true) :
    swappedStores [.Tuple [.Name x px, .Name y py] kt pt] (.Tuple vs k2 p2) env = pure (some [x, y]) := by
  simp only [par2B, Bool.and_eq_true, Bool.not_eq_true'] at h
  obtain ⟨⟨⟨⟨⟨⟨⟨h1, h2⟩, h3⟩, h4⟩, h5⟩, h6⟩, h7⟩, h8⟩ := h
  have kx : env.kindOf x = some .local := isLoc_of h1
  have ky : env.kindOf y = some .local := isLoc_of h2
  have hb : env.blockKind = .function := by unfold Env.blockKind; rw [hk]; rfl
  have hl : vs.length = 2 := eq_of_beq h8
  have h3' : py.line = px.line := (eq_of_beq h3).symm
  have he : ([x, y] : List Str).eraseDups = [x, y] := by
    have hxy : (y == x) = false := by
      rw [beq_eq_false_iff_ne] at h4 ⊢
      exact fun e => h4 e.symm
    rw [List.eraseDups_cons]
    simp [hxy, List.eraseDups_cons]
  unfold swappedStores
  simp only [hb, hl, h6, h7, kx, ky, Expr.pos, h3', List.length_cons, List.length_nil, List.head?_cons, Option.map_some, Option.getD_some, List.filterMap_cons, List.filterMap_nil, beq_self_eq_true, Bool.and_self, if_true, he]
  rw [if_neg (by decide)]
  split
  · rename_i hh; exact absurd ((any_star h5).symm.trans hh) (by decide)
  · rfl
theorem swapped3 {x y z : Str} {px py pz pt p2 : Pos} {kt k2 : Nat} {vs : List Expr} {env : Env} (hk : env.scope.kind = .function) (h : par3B env.scope x y z px py pz vs = true) :
    swappedStores [.Tuple [.Name x px, .Name y py, .Name z pz] kt pt] (.Tuple vs k2 p2) env = pure (some [x, y, z]) := by
  simp only [par3B, Bool.and_eq_true, Bool.not_eq_true'] at h
  obtain ⟨⟨⟨⟨⟨⟨⟨⟨⟨⟨⟨h1, h2⟩, h2'⟩, h3⟩, h3'⟩, h4⟩, h4'⟩, h4''⟩, h5⟩, h6⟩, h7⟩, h8⟩ := h
  have kx : env.kindOf x = some .local := isLoc_of h1
  have ky : env.kindOf y = some .local := isLoc_of h2
  have kz : env.kindOf z = some .local := isLoc_of h2'
  have hb : env.blockKind = .function := by unfold Env.blockKind; rw [hk]; rfl
  have hl : vs.length = 3 := eq_of_beq h8
  have h3y : py.line = px.line := (eq_of_beq h3).symm
  have h3z : pz.line = px.line := (eq_of_beq h3').symm
  have flip : ∀ {a b : Str}, (a == b) = false → (b == a) = false := fun h => by
    rw [beq_eq_false_iff_ne] at h ⊢
    exact fun e => h e.symm
  have he : ([x, y, z] : List Str).eraseDups = [x, y, z] := by
    rw [List.eraseDups_cons]
    simp [flip h4, flip h4', List.eraseDups_cons, flip h4'']
  unfold swappedStores
  simp only [hb, hl, h6, h7, kx, ky, kz, Expr.pos, h3y, h3z, List.length_cons, List.length_nil, List.head?_cons, Option.map_some, Option.getD_some, List.filterMap_cons, List.filterMap_nil, beq_self_eq_true, Bool.and_self, if_true, he]
  rw [if_neg (by decide)]
  split
  · rename_i hh; exact absurd ((any_star h5).symm.trans hh) (by decide)
  · rfl
/-- not all plain locals, or of an odd length: no swapping -/
def noParB (sc : Scope) (ts vs : List Expr) : Bool :=
  vs.all notStar && (!(ts.length == 2 || ts.length == 3) || vs.length != ts.length || vs.all (foldedForSure 8) || ts.any (fun | .Name x _ => !isLocB sc x | _ => false))
theorem swapped_no {ts vs : List Expr} {pt p2 : Pos} {kt k2 : Nat} {env : Env} (h : noParB env.scope ts vs = true) :
    swappedStores [.Tuple ts kt pt] (.Tuple vs k2 p2) env = pure none := by
  simp only [noParB, Bool.and_eq_true, Bool.or_eq_true] at h
  obtain ⟨h5, h⟩ := h
  unfold swappedStores
  simp only
  show (if (!(ts.length == 2 || ts.length == 3) || vs.length != ts.length || env.blockKind != .function) = true then pure none else _) = pure none
  split
  · rfl
  rename_i n1
  split
  · rfl
  split
  · rfl
  rename_i n2
  split
  · rfl
  rename_i n3
  exfalso
  simp only [Bool.or_eq_true, not_or] at n1 n2
  rcases h with ((h | h) | h) | h
  · exact n1.1.1 h
  · exact n1.1.2 h
  · exact n3 h
  · have hlen : ∀ (g : Expr → Option Str) (l : List Expr), (∃ e ∈ l, g e = none) → (l.filterMap g).length < l.length := by
      intro g l
      induction l with
      | nil => rintro ⟨e, he, _⟩; cases he
      | cons a l ih =>
        rintro ⟨e, he, hg⟩
        have hle := List.length_filterMap_le g l
        rw [List.filterMap_cons]
        rcases List.mem_cons.mp he with rfl | he
        · rw [hg]; simp only [List.length_cons]; omega
        · have := ih ⟨e, he, hg⟩
          split <;> simp only [List.length_cons] <;> omega
    obtain ⟨e, he, hn⟩ := List.any_eq_true.mp h
    refine n2.1 ?_
    rw [bne_iff_ne]
    refine Nat.ne_of_lt (hlen _ ts ⟨e, he, ?_⟩)
    cases e with
    | Name x p =>
      simp only [Bool.not_eq_true'] at hn
      have : (env.kindOf x == some .local) = false := by
        rw [beq_eq_false_iff_ne]
        intro q
        have q' : env.scope.names.lookup x = some .local := q
        unfold isLocB at hn
        rw [q'] at hn
        cases hn
      simp only [this, Bool.false_and]
      rfl
    | _ => cases hn
end M
set_option Elab.async false
set_option linter.all false
set_option maxRecDepth 100000
set_option maxHeartbeats 4000000
/-! M, part P: statements, piece by piece. -/
namespace M
open PySem L2 PySem.Spec PyProof.Rows

section
variable {G : Glob} {F : Fx} {W : WX} {P H : Hp} {σ : L2.St} {st : ES} {D : Ends}
/-- arguments, before a statement's end -/
theorem FA_bind {l : IEs} {k : List M.D → Fl} {Q : List V → Hp → Prop} (hs : StOk G F P H σ st) (h : PostS G F W D P (bindF (evEs l st) st k))
    (hk : ∀ ds vs P1 H1, evEs l st = .ok ds → Gr P H P1 H1 → Reps G P1 ds vs → PostS G F W D P1 (k ds) → Q vs H1) : tAs G F W l σ H Q :=
  ⟨P, st, hs, F_bind hs h fun ds P1 H1 e g f vs r => hk ds vs P1 H1 e g r (f.move (g.toS hs.exB))⟩
theorem FT_bind {a : IQ} {k : Bool → Fl} {Q : Bool → Hp → Prop} (hs : StOk G F P H σ st) (h : PostS G F W D P (bindF (evT a st) st k))
    (hk : ∀ b P1 H1, Gr P H P1 H1 → PostS G F W D P1 (k b) → Q b H1) : tT G F W a σ H Q :=
  ⟨P, st, hs, F_bind hs h fun b P1 H1 _ g f => hk b P1 H1 g (f.move (g.toS hs.exB))⟩
theorem FI_bind {a : IT} {k : List M.D → Fl} {Q : It → Hp → Prop} (hs : StOk G F P H σ st) (h : PostS G F W D P (bindF (evI a st) st k))
    (hk : ∀ l J P1 H1, Gr P H P1 H1 → Serves G J P1 l → PostS G F W D P1 (k l) → Q J H1) : tI G F W a σ H Q :=
  ⟨P, st, hs, F_bind hs h fun l P1 H1 _ g f J sv => hk l J P1 H1 g sv (f.move (g.toS hs.exB))⟩
theorem PostS.here {st' : ES} {σ' : L2.St} (h : PostS G F W D P (.nx st')) (hs : StOk G F P H σ' st') : D.nx σ' H := h σ' P H GrS.refl hs
theorem PostS.nxR {r : R ES} (h : PostS G F W D P (nxR r)) : ∃ st', r = .ok st' ∧ PostS G F W D P (.nx st') := by
  cases r with
  | ok st' => exact ⟨st', rfl, h⟩
  | err _ _ => exact h.elim
  | bad => exact h.elim
theorem setv_own (hs : StOk G F P H σ st) {i : Nat} {d : M.D} {v : V} {st' : ES} {H0 : Hp} {P0 : Hp} (h0 : StOk G F P0 H0 σ st) (e : setv st i (.own d) = .ok st') (f : FreshAt G H0 P H d v) : StOk G F P H (σ.set i (some v)) st' := by
  obtain ⟨rfl, hi, _, _⟩ := setv_inv e
  obtain ⟨p, rfl, hp, o⟩ := f
  refine hs.set hi ⟨p, rfl, h0.exB.free hp, o⟩ fun _ a ea j t hj ej ot q => ?_
  cases ea
  have old := h0.slot j t _ ej q
  cases t with
  | own d' =>
    obtain ⟨b, eb, _, _, o2, k1, _⟩ := old
    cases eb
    rw [hp] at k1; cases k1
  | par d' =>
    obtain ⟨b, eb, _, _, _, o2, k1, _⟩ := old
    cases eb
    rw [hp] at k1; cases k1
  | _ => cases ot
theorem OwnAt.lst {a : Addr} {l : List M.D} (h : OwnAt G P H a (.lst l)) : ∃ vs, H a = some (.lst vs) ∧ Reps G P l vs := by
  obtain ⟨o, h1, h2⟩ := h.at_
  cases o <;> simp only [Cont] at h2
  exact ⟨_, h1, h2⟩
theorem OwnAt.obj {a : Addr} {c : Str} {ns : List Str} {ds : List M.D} (h : OwnAt G P H a (.obj c ns ds)) : ∃ C dx fs, H a = some (.ins C dx fs) ∧ G.mg c = some (.ref C) ∧ fs.map (·.1) = ns ∧ Reps G P ds (fs.map (·.2)) := by
  obtain ⟨o, h1, h2⟩ := h.at_
  cases o <;> simp only [Cont] at h2
  exact ⟨_, _, _, h1, h2.1, h2.2.1, h2.2.2⟩
theorem OwnAt.one {a : Addr} {d : M.D} {P1 H1 : Hp} (h : OwnAt G P H a d) (g : Gr P H P1 H1) : OwnAt G P1 H1 a d := h.grow g
theorem own_grow (hs : StOk G F P H σ st) {i : Nat} {d : M.D} (hi : ownD st i = some d) {a : Addr} (e : σ[i]? = some (some (V.ref a))) : OwnAt G P H a d := by
  obtain ⟨b, e1, o, _⟩ := own_at hs hi
  rw [e] at e1
  cases e1
  exact o
theorem putF_names (f : Str) (y : V) (d : M.D) : ∀ (fs : List (Str × V)) (ds : List M.D), ds.length = fs.length → (putF f y fs).map (·.1) = (putN f d (fs.map (·.1)) ds).1
  | [], ds, _ => by cases ds <;> rfl
  | (g, x) :: r, [], h => by simp at h
  | (g, x) :: r, z :: zs, h => by
    show ((if g = f then (g, y) :: r else (g, x) :: putF f y r).map (·.1)) = (if g = f then (g :: r.map (·.1), d :: zs) else ((g :: (putN f d (r.map (·.1)) zs).1), (z :: (putN f d (r.map (·.1)) zs).2))).1
    by_cases hg : g = f
    · rw [if_pos hg, if_pos hg]; rfl
    · rw [if_neg hg, if_neg hg, List.map_cons, putF_names f y d r zs (by simpa using h)]
theorem putF_vals {f : Str} {y : V} {d : M.D} (hd : Rep G P d y) : ∀ (fs : List (Str × V)) (ds : List M.D), Reps G P ds (fs.map (·.2)) → Reps G P (putN f d (fs.map (·.1)) ds).2 ((putF f y fs).map (·.2))
  | [], ds, h => by
    cases ds with
    | nil => exact Reps.cons hd Reps.nil
    | cons z zs => obtain ⟨v, r, e, _⟩ := h.cons_inv; cases e
  | (g, x) :: r, [], h => by have := h.nil_inv; cases this
  | (g, x) :: r, z :: zs, h => by
    obtain ⟨v, us, e, h1, h2⟩ := h.cons_inv
    cases e
    show Reps G P (if g = f then (g :: r.map (·.1), d :: zs) else ((g :: (putN f d (r.map (·.1)) zs).1), (z :: (putN f d (r.map (·.1)) zs).2))).2 ((if g = f then (g, y) :: r else (g, x) :: putF f y r).map (·.2))
    by_cases hg : g = f
    · rw [if_pos hg, if_pos hg]; exact Reps.cons hd h2
    · rw [if_neg hg, if_neg hg]; exact Reps.cons h1 (putF_vals hd r zs h2)
theorem putF_len (f : Str) (y : V) : ∀ fs : List (Str × V), (putF f y fs).length ≤ fs.length + 1
  | [] => Nat.le_refl _
  | (g, x) :: r => by
    show (if g = f then (g, y) :: r else (g, x) :: putF f y r).length ≤ _
    split
    · simp
    · simp only [List.length_cons]; have := putF_len f y r; omega
end

section
variable {X : Cx} {F : Fx} {W : WX} {N : List Str} {sc : Scope} {lv fu : Nat}
/-! ### name = value -/
def rAsg (G : Glob) (F : Fx) (W : WX) (a : IE) (p : Pat) : TS := fun D σ H => tE G F W a σ H fun v H1 => gP G.K p v σ H1 D.nx
def okAsg (N : List Str) (sc : Scope) (a : IE) (p : Pat) (tg e : Expr) : Bool :=
  okE N true a sc e && okP N sc.names p tg && (match tg with
    | .Name y py => notComp e || isCellB sc y || (match e with
      | .ListComp _ _ scope pos => !(py.line == pos.line) || (isLocB sc y && !(scope.names.any fun (n, k) => n == y && (k == .local || k == .cell)))
      | _ => false)
    | .Tuple ts _ _ => (match e with | .Tuple vs _ _ => noParB sc ts vs | _ => true)
    | _ => false)
theorem asg_ok (c : Cxt F W X N sc sc.names true lv) (hk : sc.kind = .function) {a : IE} {p : Pat} {tg e : Expr} {pos : Pos} (h : okAsg N sc a p tg e = true) (r : reqE (gl X) lv a) : PS X (.Assign [tg] e pos) (rAsg (gl X) F W a p) := by
  simp only [okAsg, Bool.and_eq_true] at h
  obtain ⟨⟨h1, h2⟩, h3⟩ := h
  have plain : ∀ (hs : swapsWith e (some tg) pos.line X.env = pure false) (hw : swappedStores [tg] e X.env = pure none) (h1' : (assignEach [tg] X.env).map (·.2) = [assign tg X.env]), PS X (.Assign [tg] e pos) (rAsg (gl X) F W a p) := fun hs hw h1' =>
    (ps_asg (okE_ok c a e h1 r) (sP c h2) hs hw h1').weak fun D σ H q => q
  cases tg with
  | Name y py =>
    have hsw := swapped_name (x := y) (p := py) (e := e) (env := X.env)
    simp only [Bool.or_eq_true] at h3
    rcases h3 with (h3 | h3) | h3
    · exact plain (swaps_no h3) hsw rfl
    · exact plain (swaps_cell (by rw [c.hs]; exact isCell_of h3)) hsw rfl
    · cases e with
      | ListComp elt gs scope pos2 =>
        simp only [Bool.or_eq_true, Bool.and_eq_true, Bool.not_eq_true'] at h3
        by_cases hl : (py.line == pos2.line) = true
        · rcases h3 with h3 | ⟨h3, h4⟩
          · rw [hl] at h3; cases h3
          have hy : X.env.scope.names.lookup y = some .local := by rw [c.hs]; exact isLoc_of h3
          have hst := sw_true (elt := elt) (gs := gs) (l := pos.line) (by rw [c.hs]; exact hk) hy hl h4
          cases a with
          | lc pp own it q b =>
            match gs, h1, hst with
            | [⟨tg1, iter, ifs, asy⟩], h1, hst =>
              simp only [okE, Bool.and_eq_true, decide_eq_true_eq, Bool.not_eq_true', List.all_eq_true] at h1
              obtain ⟨⟨⟨⟨⟨⟨⟨_, rfl⟩, h1⟩, h2'⟩, h3'⟩, h4'⟩, h5'⟩, h6, h7, h8⟩ := h1
              have hok : BlkOk X.N X.env.scope scope own := by rw [c.hN, c.hs]; exact blkOk_by h2'
              cases p with
              | n i =>
                simp only [okP, Bool.and_eq_true, decide_eq_true_eq] at h2
                refine (ps_setLc (wi := tI (gl X) F W it) (g := gP X.K pp) (tt := tC' (gl X) F WF q) (te := tE (gl X) F WF b) (c.calm rfl) (by rw [c.hN]; exact c.nd) (by rw [c.hN]; exact h2.1) hy hst (okI_ok c it tg1 iter h6 r.1) hok (fun s H C cl fp => sP (blk_cxt c) h3') (fun s H C cl fp => okC_ok (blk_cxt c) q ifs h7 r.2.1) (fun s H C cl fp => okE_ok (blk_cxt c) b elt h8 r.2.2) (nofold h1)).weak fun D σ H hh => ?_
                exact lc_go h5' h4' hh
              | t is => cases h2
            | [], h1, _ => cases h1
            | [⟨_, _, _, _⟩, _], h1, _ => cases h1
            | ⟨_, _, _, _⟩ :: _ :: _ :: _, h1, _ => cases h1
          | lc2 pp own own2 it q p2' it2 q2 b =>
            match gs, h1, hst with
            | [⟨tg1, iter, ifs, asy⟩, ⟨tg2, iter1, ifs1, asy1⟩], h1, hst =>
              simp only [okE, Bool.and_eq_true, decide_eq_true_eq, Bool.not_eq_true', List.all_eq_true] at h1
              obtain ⟨⟨⟨⟨⟨⟨⟨⟨⟨⟨⟨⟨_, rfl⟩, rfl⟩, h1⟩, h1'⟩, h2'⟩, h3'⟩, h3''⟩, h4'⟩, h4''⟩, h4'''⟩, h5'⟩, h6, h7, h8, h9, h10⟩ := h1
              have hok : BlkOk X.N X.env.scope scope own := by rw [c.hN, c.hs]; exact blkOk_by h2'
              cases p with
              | n i =>
                simp only [okP, Bool.and_eq_true, decide_eq_true_eq] at h2
                refine (ps_setLc2 (vs1 := own2) (wi := tI (gl X) F W it) (g := gP X.K pp) (tt := tC' (gl X) F WF q) (wi1 := tI (gl X) F WF it2) (g1 := gP X.K p2') (tt1 := tC' (gl X) F WF q2) (te := tE (gl X) F WF b) (c.calm rfl) (by rw [c.hN]; exact c.nd) (by rw [c.hN]; exact h2.1) hy hst (okI_ok c it tg1 iter h6 r.1) hok h4''' (fun s H C cl fp => sP (blk_cxt c) h3') (fun s H C cl fp => okC_ok (blk_cxt c) q ifs h7 r.2.1) (fun s H C cl fp => okI_ok (blk_cxt c) it2 tg2 iter1 h8 r.2.2.1) (fun s H C cl fp => sP (blk_cxt c) h3'') (fun s H C cl fp => okC_ok (blk_cxt c) q2 ifs1 h9 r.2.2.2.1) (fun s H C cl fp => okE_ok (blk_cxt c) b elt h10 r.2.2.2.2) (nofold h1) (fun env => nofold (env := env) h1')).weak fun D σ H hh => ?_
                exact lc2_go h5' h4' h4'' hh
              | t is => cases h2
            | [], h1, _ => cases h1
            | [⟨_, _, _, _⟩], h1, _ => cases h1
            | ⟨_, _, _, _⟩ :: ⟨_, _, _, _⟩ :: _ :: _, h1, _ => cases h1
          | _ => exact (Bool.false_ne_true h1).elim
        · exact plain (swaps_line (by simpa using hl)) hsw rfl
      | _ => exact (Bool.false_ne_true h3).elim
  | Tuple ts k pt =>
    cases e with
    | Tuple vs k2 p2 => exact plain swaps_tup (swapped_no (by rw [c.hs]; exact h3)) rfl
    | _ => exact plain swaps_tup (swapped_tup rfl) rfl
  | _ => cases h3
theorem sS_asg (c : Cxt F W X N sc sc.names true lv) {a : IE} {p : Pat} {s : Stmt} (hb : isB a = false) (h : PS X s (rAsg (gl X) F W a p)) : PS X s (tS (gl X) F W fu (.asg p a)) := h.weak fun D σ H h => by
  obtain ⟨P, st, hs, h⟩ := h
  simp only [evS] at h
  refine FE_bind hb hs h fun d v P1 H1 e g r f => ?_
  obtain ⟨st', e1, f⟩ := f.nxR
  exact bindP_ok (hs.grow g) e1 r fun σ' hs' _ => f.here hs'
theorem sS_own (c : Cxt F W X N sc sc.names true lv) {a : IE} {i : Nat} {s : Stmt} (hb : isBr a = false) (h : PS X s (rAsg (gl X) F W a (.n i))) : PS X s (tS (gl X) F W fu (.own i a)) := h.weak fun D σ H h => by
  obtain ⟨P, st, hs, h⟩ := h
  simp only [evS] at h
  refine ⟨P, st, hs, F_bind hs h fun d P1 H1 e g f v r => ?_⟩
  split at f
  · rename_i hf
    obtain ⟨st', e1, f⟩ := f.nxR
    unfold ResE at r
    rw [if_neg (by rw [hb]; exact Bool.false_ne_true), if_pos hf] at r
    exact (f.move (g.toS hs.exB)).here (setv_own (hs.grow g) hs e1 r)
  · exact f.elim
end
end M
set_option Elab.async false
set_option linter.all false
set_option maxRecDepth 100000
set_option maxHeartbeats 4000000
/-! M, part Q: statements, piece by piece, on. -/
namespace M
open PySem L2 PySem.Spec PyProof.Rows
theorem sole {t e : Expr} {l : Nat} {env : Env} {b : Bool} (h : swapsWith e (some t) l env = pure b) : swapsWithSole [t] e l env = pure b := h
section
variable {X : Cx} {F : Fx} {W : WX} {N : List Str} {sc : Scope} {tn : List (Str × NameKind)} {cm : Bool} {lv fu : Nat}
theorem sS_par (c : Cxt F W X N sc sc.names true lv) (hk : sc.kind = .function) {i j : Nat} {a b : IE} {x y : Str} {px py pt p2 pos : Pos} {kt k2 : Nat} {ea eb : Expr} (hi : N[i]? = some x) (hj : N[j]? = some y) (hij : i ≠ j)
    (h2 : par2B sc x y px py [ea, eb] = true) (ha : PA X [ea, eb] (tAs (gl X) F W (.cons a (.cons b .nil)))) :
    PS X (.Assign [.Tuple [.Name x px, .Name y py] kt pt] (.Tuple [ea, eb] k2 p2) pos) (tS (gl X) F W fu (.par i j a b)) := by
  have hl : isLocB sc x = true ∧ isLocB sc y = true := by
    simp only [par2B, Bool.and_eq_true] at h2
    exact h2.1.1.1.1.1.1
  refine (ps_par (c.calm rfl) (by rw [c.hN]; exact c.nd) (by rw [c.hN]; exact hi) (by rw [c.hN]; exact hj) hij (by rw [c.hs]; exact isLoc_of hl.1) (by rw [c.hs]; exact isLoc_of hl.2) ha (swapped2 (by rw [c.hs]; exact hk) (by rw [c.hs]; exact h2)) rfl).weak fun D σ H h => ?_
  obtain ⟨P, st, hs, h⟩ := h
  simp only [evS] at h
  refine FA_bind hs h fun ds vs P1 H1 e g r f => ?_
  split at f
  · rename_i d1 d2
    obtain ⟨v, r1, rfl, q1, h1⟩ := r.cons_inv
    obtain ⟨w, r2, rfl, q2, h2⟩ := h1.cons_inv
    obtain rfl := h2.nil_inv
    refine ⟨v, w, rfl, ?_⟩
    obtain ⟨st', e1, f⟩ := f.nxR
    cases e2 : setv st i (.val d1) with
    | ok s1 =>
      rw [e2] at e1
      have e3 : setv s1 j (.val d2) = .ok st' := e1
      exact f.here (((hs.grow g).setVal e2 q1).setVal e3 q2)
    | err _ _ => rw [e2] at e1; cases e1
    | bad => rw [e2] at e1; cases e1
  · exact f.elim
theorem sS_par3 (c : Cxt F W X N sc sc.names true lv) (hk : sc.kind = .function) {i j l : Nat} {a b d : IE} {x y z : Str} {px py pz pt p2 pos : Pos} {kt k2 : Nat} {ea eb ed : Expr} (hi : N[i]? = some x) (hj : N[j]? = some y) (hl : N[l]? = some z) (hij : i ≠ j) (hil : i ≠ l) (hjl : j ≠ l)
    (h2 : par3B sc x y z px py pz [ea, eb, ed] = true) (ha : PA X [ea, eb, ed] (tAs (gl X) F W (.cons a (.cons b (.cons d .nil))))) :
    PS X (.Assign [.Tuple [.Name x px, .Name y py, .Name z pz] kt pt] (.Tuple [ea, eb, ed] k2 p2) pos) (tS (gl X) F W fu (.par3 i j l a b d)) := by
  have hh : (isLocB sc x = true ∧ isLocB sc y = true) ∧ isLocB sc z = true := by
    simp only [par3B, Bool.and_eq_true] at h2
    exact h2.1.1.1.1.1.1.1.1.1
  refine (ps_par3 (c.calm rfl) (by rw [c.hN]; exact c.nd) (by rw [c.hN]; exact hi) (by rw [c.hN]; exact hj) (by rw [c.hN]; exact hl) hij hil hjl (by rw [c.hs]; exact isLoc_of hh.1.1) (by rw [c.hs]; exact isLoc_of hh.1.2) (by rw [c.hs]; exact isLoc_of hh.2) ha (swapped3 (by rw [c.hs]; exact hk) (by rw [c.hs]; exact h2)) rfl).weak fun D σ H h => ?_
  obtain ⟨P, st, hs, h⟩ := h
  simp only [evS] at h
  refine FA_bind hs h fun ds vs P1 H1 e g r f => ?_
  split at f
  · rename_i d1 d2 d3
    obtain ⟨v, r1, rfl, q1, h1⟩ := r.cons_inv
    obtain ⟨w, r2, rfl, q2, h2⟩ := h1.cons_inv
    obtain ⟨u, r3, rfl, q3, h3⟩ := h2.cons_inv
    obtain rfl := h3.nil_inv
    refine ⟨v, w, u, rfl, ?_⟩
    obtain ⟨st', e1, f⟩ := f.nxR
    cases e2 : setv st i (.val d1) with
    | ok s1 =>
      rw [e2] at e1
      have e3 : ((setv s1 j (.val d2)).bind fun s => setv s l (.val d3)) = .ok st' := e1
      cases e4 : setv s1 j (.val d2) with
      | ok s2 =>
        rw [e4] at e3
        have e5 : setv s2 l (.val d3) = .ok st' := e3
        exact f.here ((((hs.grow g).setVal e2 q1).setVal e4 q2).setVal e5 q3)
      | err _ _ => rw [e4] at e3; cases e3
      | bad => rw [e4] at e3; cases e3
    | err _ _ => rw [e2] at e1; cases e1
    | bad => rw [e2] at e1; cases e1
  · exact f.elim
theorem sS_aug (c : Cxt F W X N sc tn cm lv) {i : Nat} {op : BOp} {o : Operator} {a : IE} {x : Str} {e : Expr} {px pos : Pos} (hi : N[i]? = some x) (hx : stoB tn x = true) (hb : isB a = false) (ho : (op = .add ∧ o = .Add) ∨ (op = .sub ∧ o = .Sub)) (ha : PE X e (tE (gl X) F W a)) :
    PS X (.AugAssign (.Name x px) o e pos) (tS (gl X) F W fu (.aug i op a)) := by
  have key : ∀ (f : Int → Int → Int), PIp X o (ipI f) → (∀ n m st, augF i op n st (.int m) = nxR (setv st i (.val (.int (f n m))))) →
      PS X (.AugAssign (.Name x px) o e pos) (tS (gl X) F W fu (.aug i op a)) := fun f hp hf => by
    refine (ps_aug (by rw [c.hN]; exact c.nd) (by rw [c.hN]; exact hi) (store_of c hx).1 ha hp (store_of c hx).2).weak fun D σ H h => ?_
    obtain ⟨P, st, hs, h⟩ := h
    simp only [evS] at h
    cases eg : getv st i with
    | ok d0 =>
      rw [eg] at h
      cases d0 with
      | int n =>
        obtain ⟨v, hv, rv⟩ := getv_ok hs eg
        simp only [Rep] at rv
        subst rv
        refine ⟨_, hv, FE_bind hb hs h fun d u P1 H1 e1 g r k => ?_⟩
        cases d with
        | int m =>
          simp only [Rep] at r
          subst r
          refine ⟨n, m, rfl, rfl, ?_⟩
          have k : PostS (gl X) F W D P1 (augF i op n st (.int m)) := k
          rw [hf n m st] at k
          obtain ⟨st', e2, k⟩ := k.nxR
          exact k.here ((hs.grow g).setVal e2 rep_int)
        | _ => exact k.elim
      | _ => exact h.elim
    | err _ _ => rw [eg] at h; exact h.elim
    | bad => rw [eg] at h; exact h.elim
  rcases ho with ⟨rfl, rfl⟩ | ⟨rfl, rfl⟩
  · exact key _ ip_add fun _ _ _ => rfl
  · exact key _ ip_sub fun _ _ _ => rfl

/-! ### lists of one's own -/
theorem pv (c : Cxt F W X N sc tn cm lv) {i : Nat} {x : Str} {p : Pos} (h : nameB N sc i x = true) : PE X (.Name x p) (tVar i) := by
  obtain ⟨h1, h2, h3, h4⟩ := nameB_ok h
  exact pe_var (i := i) (by rw [c.hN]; exact h1) (by rw [c.hs]; exact vis_of h2) h3 h4
theorem few1 {e : Expr} {pos : Pos} {env : Env} (h : notStar e = true) : ((backTo pos (starEach [e] env)).all (fun x => !x.1) && (backToKw pos (keywordEach [] env)).all (fun x => x.1.isSome)
      && decide ([e].length + ([] : List Keyword).length + (if ([] : List Keyword).isEmpty then 0 else 1) < 30)) = true := by
  rw [star_ok h]; rfl
theorem sS_app (c : Cxt F W X N sc tn cm lv) {i : Nat} {a : IE} {x : Str} {e : Expr} {p ap cp pos : Pos} (hi : nameB N sc i x = true) (hb : isB a = false) (hn : notStar e = true) (hl : (ap.endLine == cp.line) = true) (ha : PE X e (tE (gl X) F W a)) :
    PS X (.Expr (.Call (.Attribute (.Name x p) "append" ap) [e] [] cp) pos) (tS (gl X) F W fu (.app i a)) :=
  (ps_expr (pe_bm PySem.F.plainAttrs_list PySem.F.slot_list_append PySem.F.type_list_append mt_append (pv c hi) (pa_cons ha pa_nil (star_ok hn)) (base_ok rfl) (few1 hn) hl (star_ok hn) rfl) rfl).weak fun D σ H h => by
    obtain ⟨P, st, hs, h⟩ := h
    simp only [evS] at h
    split at h
    · rename_i l ho
      obtain ⟨q, e1, o1, hB⟩ := own_at hs ho
      obtain ⟨vs, k1, k2⟩ := o1.lst
      refine ⟨_, e1, .inl ⟨rfl, vs, .of k1⟩, FE_bind hb hs h fun d v P1 H1 e2 g r f => ?_⟩
      split at f
      · rename_i hlim
        have k1' := g.hh _ _ k1
        refine ⟨q, vs, v, rfl, rfl, k1', by rw [← lim_eq, k2.length]; exact hlim, ?_⟩
        exact f.here ((hs.grow g).write ho e1 (show Cont (gl X) P1 (.lst (l ++ [d])) (.lst (vs ++ [v])) from (k2.mono g.pp).append (Reps.cons r Reps.nil))).2.2.2
      · exact f.elim
    · exact h.elim
theorem sS_ext (c : Cxt F W X N sc tn cm lv) {i : Nat} {a : IE} {x : Str} {e : Expr} {p ap cp pos : Pos} (hi : nameB N sc i x = true) (hb : isB a = false) (hn : notStar e = true) (hl : (ap.endLine == cp.line) = true) (ha : PE X e (tE (gl X) F W a)) :
    PS X (.Expr (.Call (.Attribute (.Name x p) "extend" ap) [e] [] cp) pos) (tS (gl X) F W fu (.ext i a)) :=
  (ps_expr (pe_bm PySem.F.plainAttrs_list PySem.F.slot_list_extend PySem.F.type_list_extend mt_extend (pv c hi) (pa_cons ha pa_nil (star_ok hn)) (base_ok rfl) (few1 hn) hl (star_ok hn) rfl) rfl).weak fun D σ H h => by
    obtain ⟨P, st, hs, h⟩ := h
    simp only [evS] at h
    split at h
    · rename_i l ho
      obtain ⟨q, e1, o1, hB⟩ := own_at hs ho
      obtain ⟨vs, k1, k2⟩ := o1.lst
      refine ⟨_, e1, .inl ⟨rfl, vs, .of k1⟩, FE_bind hb hs h fun d v P1 H1 e2 g r f => ?_⟩
      cases d with
      | lst m =>
        have f : PostS (gl X) F W D P1 (if l.length + m.length ≤ LIM then .nx (putO st i (.lst (l ++ m))) else .no) := f
        split at f
        · rename_i hlim
          have k1' := g.hh _ _ k1
          simp only [Rep] at r
          obtain ⟨b, us, rfl, q1, q2⟩ := r
          refine ⟨q, b, vs, us, rfl, rfl, k1', g.ph _ _ q1, by rw [← lim_eq, k2.length, q2.length]; exact hlim, ?_⟩
          exact f.here ((hs.grow g).write ho e1 (show Cont (gl X) P1 (.lst (l ++ m)) (.lst (vs ++ us)) from (k2.mono g.pp).append q2)).2.2.2
        · exact f.elim
      | _ => exact f.elim
    · exact h.elim
theorem _root_.L2.PS.or {s : Stmt} {t t' : TS} (h : PS X s t) (h' : PS X s t') : PS X s (fun D σ H => t D σ H ∨ t' D σ H) := ⟨fun pins s σ H D I q => by
  rcases q with q | q
  · exact h.run pins s σ H D I q
  · exact h'.run pins s σ H D I q⟩
theorem OwnAt.put {G : Glob} {P H : Hp} {p : Addr} {t : Bool} {ks ds : List M.D} {k d d' : M.D} {u v : V} (h : OwnAt G P H p (.dic t ks ds)) (s : Same P H) (hk : Rep G P k u) (hd : Rep G P d v) (e : dputD t ks ds k d = .ok d') :
    ∃ o, DPut H p u v (upd H p o) ∧ Cont G P d' o := by
  unfold dputD at e
  split at e
  · rename_i hh
    obtain ⟨ok, hl⟩ := hh
    cases e
    obtain ⟨o, h1, h2⟩ := h.at_
    cases t with
    | false =>
      cases o <;> simp only [Cont] at h2
      rename_i kvs
      obtain ⟨h3, h4⟩ := h2
      obtain ⟨κ, rfl⟩ : ∃ κ : Key, k = keyD κ := by
        cases k <;> first | exact ⟨.inl _, rfl⟩ | exact ⟨.inr _, rfl⟩ | cases ok
      obtain rfl := rep_key hk
      subst h3
      rw [List.length_map] at hl
      refine ⟨_, .k h1 hl, ?_⟩
      obtain ⟨a1, a2⟩ := ent_put beq_key κ hd kvs ds h4
      cases hm : memK (kvs.map fun p => keyD p.1) (keyD κ) with
      | true => rw [if_pos rfl]; simp only [Cont]; exact a1 hm
      | false => rw [if_neg Bool.false_ne_true]; simp only [Cont]; exact a2 hm
    | true =>
      cases o <;> simp only [Cont] at h2
      rename_i kvs
      obtain ⟨h3, h4⟩ := h2
      cases k with
      | tup l =>
        obtain ⟨κ, rfl⟩ := keys_inv ok
        simp only [Rep] at hk
        obtain ⟨b, us, rfl, h5, h6⟩ := hk
        rw [reps_key h6] at h5
        subst h3
        rw [List.length_map] at hl
        refine ⟨_, .t h1 (s _ _ h5) hl, ?_⟩
        obtain ⟨a1, a2⟩ := ent_put beq_encT κ hd kvs ds h4
        unfold encT at a1 a2
        cases hm : memK (kvs.map fun p => M.D.tup (p.1.map keyD)) (.tup (κ.map keyD)) with
        | true => rw [if_pos rfl]; simp only [Cont]; exact a1 hm
        | false => rw [if_neg Bool.false_ne_true]; simp only [Cont]; exact a2 hm
      | _ => cases ok
  · cases e
theorem sS_seti (c : Cxt F W X N sc tn cm lv) {i : Nat} {k a : IE} {x : Str} {ek e : Expr} {p sp pos : Pos} (hi : nameB N sc i x = true) (hb : isB a = false) (hbk : isB k = false) (hsl : notSlice ek = true) (hck : PE X ek (tE (gl X) F W k)) (ha : PE X e (tE (gl X) F W a)) :
    PS X (.Assign [.Subscript (.Name x p) ek sp] e pos) (tS (gl X) F W fu (.seti i k a)) :=
  ((ps_asg ha (pg_sub (pv c hi) hck set_list (by cases ek <;> first | (intro _; rfl) | cases hsl)) (sole swaps_sub) swapped_sub rfl).or (ps_dput (by have := c.un; omega) (pv c hi) hck ha swaps_sub)).weak fun D σ H h => by
    obtain ⟨P, st, hs, h⟩ := h
    simp only [evS] at h
    split at h
    · rename_i l ho
      refine .inl ?_
      obtain ⟨q, e1, o1, hB⟩ := own_at hs ho
      refine FE_bind hb hs h fun d v P1 H1 e2 g r f => ⟨_, e1, FE_bind hbk (hs.grow g) f fun d2 u P2 H2 e3 g2 r2 f2 => ?_⟩
      cases d2 with
      | int n =>
        simp only [Rep] at r2
        subst r2
        have f2 : PostS (gl X) F W D P2 (match ixN l.length n with | some j => .nx (putO st i (.lst (l.set j d))) | none => .no) := f2
        split at f2
        · rename_i j hj
          obtain ⟨vs, k1, k2⟩ := ((o1.grow g).grow g2).lst
          refine ⟨q, vs, n, j, rfl, rfl, k1, by rw [k2.length]; exact hj, ?_⟩
          exact f2.here (((hs.grow g).grow g2).write ho e1 (show Cont (gl X) P2 (.lst (l.set j d)) (.lst (vs.set j v)) from k2.set j (r.mono g2.pp))).2.2.2
        · exact f2.elim
      | _ => exact f2.elim
    · rename_i t ks ds ho
      refine .inr ?_
      obtain ⟨q, e1, o1, hB⟩ := own_at hs ho
      refine FE_bind hb hs h fun d v P1 H1 e2 g r f => ⟨_, e1, FE_bind hbk (hs.grow g) f fun d2 u P2 H2 e3 g2 r2 f2 => ?_⟩
      split at f2
      · rename_i d' hj
        obtain ⟨o, k1, k2⟩ := ((o1.grow g).grow g2).put g2.ph r2 (r.mono g2.pp) hj
        exact ⟨q, _, rfl, k1, f2.here (((hs.grow g).grow g2).write ho e1 k2).2.2.2⟩
      · exact f2.elim
    · exact h.elim
theorem sS_setf (c : Cxt F W X N sc tn cm lv) {i : Nat} {cl f : Str} {a : IE} {x : Str} {e : Expr} {p sp pos : Pos} (hi : nameB N sc i x = true) (hb : isB a = false) (hf : FldOk (gl X) cl f) (ha : PE X e (tE (gl X) F W a)) :
    PS X (.Assign [.Attribute (.Name x p) f sp] e pos) (tS (gl X) F W fu (.setf i cl f a)) :=
  (ps_fld (pv c hi) ha swaps_att).weak fun D σ H h => by
    obtain ⟨P, st, hs, h⟩ := h
    simp only [evS] at h
    split at h
    · rename_i c' ns ds ho
      obtain ⟨q, e1, o1, hB⟩ := own_at hs ho
      refine FE_bind hb hs h fun d v P1 H1 e2 g r k => ⟨_, e1, ?_⟩
      split at k
      · rename_i hc
        obtain ⟨rfl, hlen⟩ := hc
        obtain ⟨C, dx, fs, k1, k2, k3, k4⟩ := (o1.grow g).obj
        obtain ⟨C2, m1, m2, m3⟩ := hf.ex
        have hC : C = C2 := by rw [k2] at m1; cases m1; rfl
        subst hC
        have hfl : fs.length = ns.length := by rw [← k3, List.length_map]
        refine ⟨q, C, dx, fs, rfl, k1, m2, m3, by omega, ?_⟩
        refine k.here ((hs.grow g).write ho e1 (show Cont (gl X) P1 (.obj c' (putN f d ns ds).1 (putN f d ns ds).2) (.ins C dx (putF f v fs)) from ⟨k2, ?_, ?_⟩)).2.2.2
        · rw [← k3]; exact putF_names f v d fs ds (by rw [← k4.length, List.length_map])
        · rw [← k3]; exact putF_vals r fs ds k4
      · exact k.elim
    · exact h.elim
theorem reps_dropLast {G : Glob} {H : Hp} : ∀ {ds : List M.D} {vs : List V}, Reps G H ds vs → Reps G H ds.dropLast vs.dropLast
  | [], vs, h => by rw [h.nil_inv]; exact Reps.nil
  | [d], vs, h => by
    obtain ⟨v, r, rfl, h1, h2⟩ := h.cons_inv
    rw [h2.nil_inv]; exact Reps.nil
  | d :: e :: ds, vs, h => by
    obtain ⟨v, r, rfl, h1, h2⟩ := h.cons_inv
    obtain ⟨u, r', rfl, h3, h4⟩ := h2.cons_inv
    exact Reps.cons h1 (reps_dropLast (Reps.cons h3 h4))
theorem reps_erase {G : Glob} {H : Hp} : ∀ {ds : List M.D} {vs : List V} (i : Nat), Reps G H ds vs → Reps G H (ds.eraseIdx i) (vs.eraseIdx i)
  | [], vs, i, h => by rw [h.nil_inv]; exact Reps.nil
  | d :: ds, vs, 0, h => by
    obtain ⟨v, r, rfl, h1, h2⟩ := h.cons_inv
    exact h2
  | d :: ds, vs, i + 1, h => by
    obtain ⟨v, r, rfl, h1, h2⟩ := h.cons_inv
    exact Reps.cons h1 (reps_erase i h2)
/-- the popped value, and the rest -/
theorem sE_pop0 (c : Cxt F W X N sc tn cm lv) {j : Nat} {x : Str} {p ap cp : Pos} (hi : nameB N sc j x = true) (hl : (ap.endLine == cp.line) = true) :
    PE X (.Call (.Attribute (.Name x p) "pop" ap) [] [] cp) (fun σ H Q => ∃ P st l d, StOk (gl X) F P H σ st ∧ ownD st j = some (.lst l) ∧ l[l.length - 1]? = some d ∧ ∀ v H', Rep (gl X) P d v → StOk (gl X) F P H' σ (putO st j (.lst l.dropLast)) → Q v H') :=
  (pe_bm0 PySem.F.plainAttrs_list PySem.F.slot_list_pop PySem.F.type_list_pop mt_pop (pv c hi) (base_ok rfl) hl).weak fun σ H Q h => by
    obtain ⟨P, st, l, d, hs, ho, hd, h⟩ := h
    obtain ⟨q, e1, o1, hB⟩ := own_at hs ho
    obtain ⟨vs, k1, k2⟩ := o1.lst
    obtain ⟨v, hv, rv⟩ := k2.get hd
    refine ⟨_, e1, .inl ⟨rfl, vs, .of k1⟩, q, vs, v, rfl, rfl, k1, by rw [k2.length]; exact hv, h v _ rv ?_⟩
    exact (hs.write ho e1 (show Cont (gl X) P (.lst l.dropLast) (.lst vs.dropLast) from reps_dropLast k2)).2.2.2
theorem sS_pop0 (c : Cxt F W X N sc sc.names true lv) {t j : Nat} {x y : Str} {p ap cp py pos : Pos} (hi : nameB N sc j x = true) (hl : (ap.endLine == cp.line) = true) (ht : N[t]? = some y) (hy : stoB sc.names y = true) :
    PS X (.Assign [.Name y py] (.Call (.Attribute (.Name x p) "pop" ap) [] [] cp) pos) (tS (gl X) F W fu (.pop0 t j)) :=
  (ps_asg (sE_pop0 c hi hl) (pg_of c ht hy) (sole (swaps_no rfl)) swapped_name rfl).weak fun D σ H h => by
    obtain ⟨P, st, hs, h⟩ := h
    simp only [evS] at h
    split at h
    · rename_i l ho
      split at h
      · rename_i d hd
        refine ⟨P, st, l, d, hs, ho, hd, fun v H' rv hs' => ?_⟩
        obtain ⟨st', e1, f⟩ := h.nxR
        exact f.here (hs'.setVal e1 rv)
      · exact h.elim
    · exact h.elim
theorem sS_pop0d (c : Cxt F W X N sc tn cm lv) {j : Nat} {x : Str} {p ap cp pos : Pos} (hi : nameB N sc j x = true) (hl : (ap.endLine == cp.line) = true) :
    PS X (.Expr (.Call (.Attribute (.Name x p) "pop" ap) [] [] cp) pos) (tS (gl X) F W fu (.pop0d j)) :=
  (ps_expr (sE_pop0 c hi hl) rfl).weak fun D σ H h => by
    obtain ⟨P, st, hs, h⟩ := h
    simp only [evS] at h
    split at h
    · rename_i l ho
      split at h
      · rename_i d hd
        exact ⟨P, st, l, d, hs, ho, hd, fun v H' rv hs' => h.here hs'⟩
      · exact h.elim
    · exact h.elim
theorem sE_popI (c : Cxt F W X N sc tn cm lv) {j : Nat} {k : IE} {x : Str} {e : Expr} {p ap cp : Pos} (hi : nameB N sc j x = true) (hb : isB k = false) (hn : notStar e = true) (hl : (ap.endLine == cp.line) = true) (ha : PE X e (tE (gl X) F W k)) :
    PE X (.Call (.Attribute (.Name x p) "pop" ap) [e] [] cp) (fun σ H Q => ∃ P st l, StOk (gl X) F P H σ st ∧ ownD st j = some (.lst l) ∧ tE (gl X) F W k σ H fun u H1 => ∃ P1 n m d, Gr P H P1 H1 ∧ u = .int n ∧ -1000000 < n ∧ n < 1000000 ∧ seqIndex? n l.length = some m ∧ l[m]? = some d ∧
      ∀ v H', Rep (gl X) P1 d v → StOk (gl X) F P1 H' σ (putO st j (.lst (l.eraseIdx m))) → Q v H') :=
  (pe_bm PySem.F.plainAttrs_list PySem.F.slot_list_pop PySem.F.type_list_pop mt_popAt (pv c hi) (pa_cons ha pa_nil (star_ok hn)) (base_ok rfl) (few1 hn) hl (star_ok hn) rfl).weak fun σ H Q h => by
    obtain ⟨P, st, l, hs, ho, h⟩ := h
    obtain ⟨q, e1, o1, hB⟩ := own_at hs ho
    obtain ⟨vs, k1, k2⟩ := o1.lst
    refine ⟨_, e1, .inl ⟨rfl, vs, .of k1⟩, ?_⟩
    obtain ⟨P0, st0, hs0, h⟩ := h
    refine ⟨P0, st0, hs0, h.mono fun d P' H' _ hh v rv => ?_⟩
    obtain ⟨P1, n, m, d', g, rfl, hn1, hn2, hm, hd, hq⟩ := hh v rv
    have k2' := k2.mono g.pp
    obtain ⟨w, hw, rw'⟩ := k2'.get hd
    refine ⟨q, vs, n, m, w, rfl, rfl, g.hh _ _ k1, by omega, by omega, by rw [k2.length]; exact hm, hw, hq w _ rw' ?_⟩
    exact ((hs.grow g).write ho e1 (show Cont (gl X) P1 (.lst (l.eraseIdx m)) (.lst (vs.eraseIdx m)) from reps_erase m k2')).2.2.2
theorem sS_popI (c : Cxt F W X N sc sc.names true lv) {t j : Nat} {k : IE} {x y : Str} {e : Expr} {p ap cp py pos : Pos} (hi : nameB N sc j x = true) (hb : isB k = false) (hn : notStar e = true) (hl : (ap.endLine == cp.line) = true) (ha : PE X e (tE (gl X) F W k)) (ht : N[t]? = some y) (hy : stoB sc.names y = true) :
    PS X (.Assign [.Name y py] (.Call (.Attribute (.Name x p) "pop" ap) [e] [] cp) pos) (tS (gl X) F W fu (.popI t j k)) :=
  (ps_asg (sE_popI c hi hb hn hl ha) (pg_of c ht hy) (sole (swaps_no rfl)) swapped_name rfl).weak fun D σ H h => by
    obtain ⟨P, st, hs, h⟩ := h
    simp only [evS] at h
    split at h
    · rename_i l ho
      refine ⟨P, st, l, hs, ho, FE_bind hb hs h fun d u P1 H1 e2 g r f => ?_⟩
      cases d with
      | int n =>
        simp only [Rep] at r
        subst r
        simp only at f
        split at f
        · rename_i m hm
          split at f
          · rename_i d hd
            split at f
            · rename_i hn
              refine ⟨P1, n, m, d, g, rfl, hn.1, hn.2, hm, hd, fun v H' rv hs' => ?_⟩
              obtain ⟨st', e1, f⟩ := f.nxR
              exact f.here (hs'.setVal e1 rv)
            · exact f.elim
          · exact f.elim
        · exact f.elim
      | _ => exact f.elim
    · exact h.elim
theorem sS_popId (c : Cxt F W X N sc tn cm lv) {j : Nat} {k : IE} {x : Str} {e : Expr} {p ap cp pos : Pos} (hi : nameB N sc j x = true) (hb : isB k = false) (hn : notStar e = true) (hl : (ap.endLine == cp.line) = true) (ha : PE X e (tE (gl X) F W k)) :
    PS X (.Expr (.Call (.Attribute (.Name x p) "pop" ap) [e] [] cp) pos) (tS (gl X) F W fu (.popId j k)) :=
  ((ps_expr (sE_popI c hi hb hn hl ha) rfl).or (ps_expr (pe_dpop1 (pv c hi) ha ⟨base_ok rfl, few1 hn, hl, by rw [star_ok hn]; rfl⟩) rfl)).weak fun D σ H h => by
    obtain ⟨P, st, hs, h⟩ := h
    simp only [evS] at h
    split at h
    · rename_i ks ds ho
      refine .inr ?_
      obtain ⟨q, e1, o1, hB⟩ := own_at hs ho
      obtain ⟨o, k1, k2⟩ := o1.at_
      cases o <;> simp only [Cont] at k2
      rename_i kvs
      obtain ⟨k3, k4⟩ := k2
      refine ⟨_, e1, q, rfl, ?_, FE_bind hb hs h fun d u P1 H1 e2 g r f => ?_⟩
      · exact (.inl ⟨kvs, .inl k1⟩)
      split at f
      · rename_i hk
        obtain ⟨hk1, hk2⟩ := hk
        obtain ⟨κ, rfl⟩ : ∃ κ : Key, d = keyD κ := by
          cases d <;> first | exact ⟨.inl _, rfl⟩ | exact ⟨.inr _, rfl⟩ | cases hk1
        obtain rfl := rep_key r
        subst k3
        obtain ⟨a1, a2⟩ := ent_drop beq_key κ kvs ds k4
        have hv : ∃ v, valV kvs κ = some v := by
          rw [ent_mem beq_key] at hk2
          exact val_any hk2
        obtain ⟨v, hv⟩ := hv
        refine ⟨kvs, κ, v, g.hh _ _ k1, rfl, hv, ?_⟩
        exact f.here ((hs.grow g).write ho e1 (show Cont (gl X) P1 (.dic false (dropD (kvs.map fun p => keyD p.1) ds (keyD κ)).1 (dropD (kvs.map fun p => keyD p.1) ds (keyD κ)).2) (.dK (dropK kvs κ)) from by simp only [Cont]; exact ⟨a1, a2.mono g.pp⟩)).2.2.2
      · exact f.elim
    · rename_i l ho
      refine .inl ?_
      refine ⟨P, st, l, hs, ho, FE_bind hb hs h fun d u P1 H1 e2 g r f => ?_⟩
      cases d with
      | int n =>
        simp only [Rep] at r
        subst r
        simp only at f
        split at f
        · rename_i m hm
          split at f
          · rename_i d hd
            split at f
            · rename_i hn
              exact ⟨P1, n, m, d, g, rfl, hn.1, hn.2, hm, hd, fun v H' rv hs' => f.here hs'⟩
            · exact f.elim
          · exact f.elim
        · exact f.elim
      | _ => exact f.elim
    · exact h.elim
end
end M
set_option Elab.async false
set_option linter.all false
set_option maxRecDepth 100000
set_option maxHeartbeats 4000000
/-! M, part R: the flow of statements. -/
namespace M
open PySem L2 PySem.Spec PyProof.Rows
section
variable {X : Cx} {F : Fx} {W : WX} {N : List Str} {sc : Scope} {tn : List (Str × NameKind)} {cm : Bool} {lv fu : Nat}
theorem sS_drop {a : IE} {e : Expr} {pos : Pos} (hc : notComp e = true) (ha : PE X e (tE (gl X) F W a)) : PS X (.Expr e pos) (tS (gl X) F W fu (.drop a)) :=
  (ps_expr ha (swaps_no hc)).weak fun D σ H h => by
    obtain ⟨P, st, hs, h⟩ := h
    simp only [evS] at h
    exact ⟨P, st, hs, F_bind hs h fun d P1 H1 e g f v r => (f.move (g.toS hs.exB)).here (hs.grow g)⟩
theorem sS_ret {a : IE} {e : Expr} {pos : Pos} (hb : isB a = false) (ha : PE X e (tE (gl X) F W a)) : PS X (.Return (some e) pos) (tS (gl X) F W fu (.ret a)) :=
  (ps_ret ha).weak fun D σ H h => by
    obtain ⟨P, st, hs, h⟩ := h
    simp only [evS] at h
    exact FE_bind hb hs h fun d v P1 H1 e g r f => f v σ P1 H1 GrS.refl (hs.grow g) r
theorem sS_retN {pos : Pos} : PS X (.Return none pos) (tS (gl X) F W fu .retN) :=
  ps_retN.weak fun D σ H h => by
    obtain ⟨P, st, hs, h⟩ := h
    exact h .non σ P H GrS.refl hs (by simp only [Rep])
theorem sS_pass {pos : Pos} : PS X (.Pass pos) (tS (gl X) F W fu .pass) :=
  ps_pass.weak fun D σ H h => by
    obtain ⟨P, st, hs, h⟩ := h
    exact h σ P H GrS.refl hs
theorem sS_doc {z : Str} {k : Nat} {p pos : Pos} (h : PS X (.Expr (.Constant (.str z) k p) pos) tNext) : PS X (.Expr (.Constant (.str z) k p) pos) (tS (gl X) F W fu .pass) :=
  h.weak fun D σ H h => by
    obtain ⟨P, st, hs, h⟩ := h
    exact h σ P H GrS.refl hs
theorem sS_brk {pos : Pos} : PS X (.Break pos) (tS (gl X) F W fu .brk) :=
  ps_break.weak fun D σ H h => by
    obtain ⟨P, st, hs, h⟩ := h
    exact h σ P H GrS.refl hs
theorem sS_cont {pos : Pos} : PS X (.Continue pos) (tS (gl X) F W fu .cont) :=
  ps_continue.weak fun D σ H h => by
    obtain ⟨P, st, hs, h⟩ := h
    exact h σ P H GrS.refl hs
theorem sS_ife {q : IQ} {a b : ISs} {z : Expr} {x y : List Stmt} {pos : Pos} (hc : PT X z (tT (gl X) F W q)) (ha : PSs X x (tSs (gl X) F W fu a)) (hb : PSs X y (tSs (gl X) F W fu b)) : PS X (.If z x y pos) (tS (gl X) F W fu (.ife q a b)) :=
  (ps_if hc ha hb).weak fun D σ H h => by
    obtain ⟨P, st, hs, h⟩ := h
    simp only [evS] at h
    refine FT_bind hs h fun b P1 H1 g f => ?_
    cases b with
    | true => rw [if_pos rfl] at f ⊢; exact ⟨P1, st, hs.grow g, f⟩
    | false => rw [if_neg Bool.false_ne_true] at f ⊢; exact ⟨P1, st, hs.grow g, f⟩
/-- the ends of a loop's body -/
def FlowOf (G : Glob) (F : Fx) (W : WX) (D : Ends) (P : Hp) (k : ES → Fl) : Fl → Prop
  | .nx s => PostS G F W D P (k s)
  | .ct s => PostS G F W D P (k s)
  | .bk s => PostS G F W D P (.nx s)
  | .rt d s => PostS G F W D P (.rt d s)
  | .er c p s => PostS G F W D P (.er c p s)
  | .no => False
theorem body_ok {G : Glob} {D : Ends} {P : Hp} {k : ES → Fl} {r : Fl} {N : L2.St → Hp → Prop} (h : FlowOf G F W D P k r) (hN : ∀ P' H' σ' st', GrS F P P' → StOk G F P' H' σ' st' → PostS G F W D P' (k st') → N σ' H') :
    PostS G F W { D with nx := N, ct := N, bk := D.nx } P r := by
  cases r with
  | nx s => exact fun σ' P' H' g hs => hN P' H' σ' s g hs (PostS.move h g)
  | ct s => exact fun σ' P' H' g hs => hN P' H' σ' s g hs (PostS.move h g)
  | bk s => exact h
  | rt d s => exact h
  | er c p s => exact h
  | no => exact h
theorem sS_for (c : Cxt F W X N sc sc.names true lv) {p : Pat} {it : IT} {b : ISs} {tg iter : Expr} {body : List Stmt} {pos : Pos} (hns : notSet iter = true) (hp : okP N sc.names p tg = true) (hi : PI X tg iter (tI (gl X) F W it)) (hb : PSs X body (tSs (gl X) F W fu b)) :
    PS X (.For tg iter body [] pos) (tS (gl X) F W fu (.for_ p it b)) :=
  (ps_for c.po (c.calm rfl) hi (sP c hp) hb (nofold hns)).weak fun D σ H h => by
    obtain ⟨P, st, hs, h⟩ := h
    simp only [evS] at h
    refine FI_bind hs h fun l J P1 H1 g sv f => ?_
    refine ⟨fun i m σ' H' => m = l.length - i ∧ i ≤ l.length ∧ ∃ P' st', GrS F P1 P' ∧ StOk (gl X) F P' H' σ' st' ∧ PostS (gl X) F W D P' (forRun (bindP p) (fun s => evSs fu b s) (l.drop i) st'),
      ⟨l.length, rfl, Nat.zero_le _, P1, st, GrS.refl, hs.grow g, by rw [List.drop_zero]; exact f⟩, fun i m σ' H' hW => ?_⟩
    obtain ⟨hm, hi, P', st', g', hs', f'⟩ := hW
    by_cases hlt : i < l.length
    · refine .inr ?_
      have hget : l[i]? = some l[i] := List.getElem?_eq_getElem hlt
      obtain ⟨hgo, hyld⟩ := (sv i H' (g'.pp.trans hs'.ex)).2 _ hget
      rw [List.drop_eq_getElem_cons hlt] at f'
      refine ⟨hgo, fun σ2 H2 => ∃ P2 st2, GrS F P1 P2 ∧ StOk (gl X) F P2 H2 σ2 st2 ∧ PostS (gl X) F W D P2 (forRun (bindP p) (fun s => evSs fu b s) (l.drop (i + 1)) st2), fun σ2 H2 hN => ⟨l.length - (i + 1), by omega, rfl, by omega, hN⟩, fun x H2 hy => ?_⟩
      obtain ⟨P2, g2, r2⟩ := hyld x H2 hy P' g'.pp hs'.ex
      unfold forRun at f'
      cases e1 : bindP p l[i] st' with
      | ok st1 =>
        rw [e1] at f'
        have gS := g2.toS hs'.exB
        refine bindP_ok (hs'.grow g2) e1 r2 fun σ3 hs3 _ => ⟨P2, st1, hs3, ?_⟩
        refine body_ok (k := fun s => forRun (bindP p) (fun s => evSs fu b s) (l.drop (i + 1)) s) ?_ fun P3 H3 σ4 st4 g4 hs4 f4 => ⟨P3, st4, (g'.trans gS).trans g4, hs4, f4⟩
        have f' : PostS (gl X) F W D P' (match evSs fu b st1 with
          | .nx st2 => forRun (bindP p) (fun s => evSs fu b s) (l.drop (i + 1)) st2
          | .ct st2 => forRun (bindP p) (fun s => evSs fu b s) (l.drop (i + 1)) st2
          | .bk st2 => .nx st2
          | .rt d st2 => .rt d st2
          | .er c p st2 => .er c p st2
          | .no => .no) := f'
        have f' := f'.move gS
        generalize evSs fu b st1 = rr at f' ⊢
        cases rr with
        | nx s => exact f'
        | ct s => exact f'
        | bk s => exact f'
        | rt d s => exact f'
        | er c p s => exact f'
        | no => exact f'
      | err _ _ => rw [e1] at f'; exact f'.elim
      | bad => rw [e1] at f'; exact f'.elim
    · have hil : i = l.length := by omega
      subst hil
      rw [List.drop_length] at f'
      exact .inl ⟨(sv _ H' (g'.pp.trans hs'.ex)).1 (Nat.le_refl _), PostS.here (show PostS (gl X) F W D P' (.nx st') from f') hs'⟩
theorem sS_while (c : Cxt F W X N sc tn cm lv) {q : IQ} {b : ISs} {z : Expr} {body : List Stmt} {pos : Pos} (hc : PT X z (tT (gl X) F W q)) (hb : PSs X body (tSs (gl X) F W fu b)) :
    PS X (.While z body [] pos) (tS (gl X) F W fu (.while_ q b)) :=
  (ps_while c.po hc hb).weak fun D σ H h => by
    obtain ⟨P, st, hs, h⟩ := h
    simp only [evS] at h
    refine ⟨fun m σ' H' => ∃ P' st', StOk (gl X) F P' H' σ' st' ∧ PostS (gl X) F W D P' (whRun (fun s => evT q s) (fun s => evSs fu b s) m st'), ⟨fu, P, st, hs, h⟩, fun m σ' H' hW => ?_⟩
    obtain ⟨P', st', hs', f'⟩ := hW
    cases m with
    | zero => exact f'.elim
    | succ m =>
      unfold whRun at f'
      refine FT_bind hs' f' fun k P1 H1 g f => ?_
      cases k with
      | false => rw [if_neg Bool.false_ne_true] at f ⊢; exact f.here (hs'.grow g)
      | true =>
        rw [if_pos rfl] at f ⊢
        refine ⟨fun σ2 H2 => ∃ P2 st2, StOk (gl X) F P2 H2 σ2 st2 ∧ PostS (gl X) F W D P2 (whRun (fun s => evT q s) (fun s => evSs fu b s) m st2), fun σ2 H2 hN => ⟨m, Nat.lt_succ_self _, hN⟩, P1, st', hs'.grow g, ?_⟩
        refine body_ok (k := fun s => whRun (fun s => evT q s) (fun s => evSs fu b s) m s) ?_ fun P3 H3 σ4 st4 g4 hs4 f4 => ⟨P3, st4, hs4, f4⟩
        have f : PostS (gl X) F W D P1 (match evSs fu b st' with
          | .nx st2 => whRun (fun s => evT q s) (fun s => evSs fu b s) m st2
          | .ct st2 => whRun (fun s => evT q s) (fun s => evSs fu b s) m st2
          | .bk st2 => .nx st2
          | .rt d st2 => .rt d st2
          | .er c p st2 => .er c p st2
          | .no => .no) := f
        generalize evSs fu b st' = rr at f ⊢
        cases rr with
        | nx s => exact f
        | ct s => exact f
        | bk s => exact f
        | rt d s => exact f
        | er c p s => exact f
        | no => exact f

/-! ### blocks -/
theorem sSs_nil : PSs X [] (tSs (gl X) F W fu .nil) := pss_nil.weak fun D σ H h => by
  obtain ⟨P, st, hs, h⟩ := h
  exact h σ P H GrS.refl hs
theorem sSs_cons {a : IS} {r : ISs} {s : Stmt} {ss : List Stmt} (ha : PS X s (tS (gl X) F W fu a)) (hr : PSs X ss (tSs (gl X) F W fu r)) : PSs X (s :: ss) (tSs (gl X) F W fu (.cons a r)) :=
  (pss_cons ha hr).weak fun D σ H h => by
    obtain ⟨P, st, hs, h⟩ := h
    refine ⟨P, st, hs, ?_⟩
    have h : PostS (gl X) F W D P (thenF (evS fu a st) fun s => evSs fu r s) := h
    generalize evS fu a st = rr at h ⊢
    cases rr with
    | nx s => exact fun σ' P' H' g hs' => ⟨P', s, hs', PostS.move h g⟩
    | ct s => exact h
    | bk s => exact h
    | rt d s => exact h
    | er c p s => exact h
    | no => exact h
/-- a thing of one's own is put among what is for good -/
theorem StOk.frz {G : Glob} {P H : Hp} {σ : L2.St} {st : ES} (hs : StOk G F P H σ st) {i : Nat} {d : M.D} (hd : nd d = true) (hi : st[i]? = some (.own d)) : ∃ P2, GrS F P P2 ∧ StOk G F P2 H σ (st.set i (.val d)) := by
  obtain ⟨ov, e1, a, rfl, hB, ho⟩ := hs.at_ hi
  obtain ⟨o, k1, k2, k3, k4⟩ := ho.freeze hs.ex hd
  have hlen : i < st.length := (List.getElem?_eq_some_iff.mp hi).1
  refine ⟨upd P a o, ⟨k2, fun b x q => ?_⟩, by rw [List.length_set]; exact hs.len, k3, hs.exB, fun j t ov2 e2 e3 => ?_, fun j k t u b hjk e2 e3 o1 o2 q1 q2 => ?_⟩
  · by_cases hb : b = a
    · exact .inr (.inl (by rw [hb]; exact hB))
    · rw [upd_ne hb] at q; exact .inl q
  · by_cases hj : i = j
    · subst hj
      rw [List.getElem?_set_self hlen] at e2
      rw [e1] at e3
      cases e2; cases e3
      exact ⟨_, rfl, k4⟩
    · rw [List.getElem?_set_ne hj] at e2
      have old := hs.slot j t ov2 e2 e3
      have nb : ∀ b, ov2 = some (V.ref b) → isOwn t = true → b ≠ a := fun b eb ot z => by
        subst eb z
        exact hs.dist i j _ t b hj hi e2 rfl ot e1 e3
      have own : ∀ b d', ov2 = some (V.ref b) → isOwn t = true → OwnAt G P H b d' → OwnAt G (upd P a o) H b d' := fun b d' eb ot h => by
        obtain ⟨x, h1, h2⟩ := h.at_
        exact ⟨by rw [upd_ne (nb b eb ot)]; exact h.no, x, h1, h2.mono k2⟩
      cases t with
      | un => trivial
      | val d => obtain ⟨v, rfl, r⟩ := old; exact ⟨v, rfl, r.mono k2⟩
      | own d =>
        obtain ⟨b, rfl, eb, ob⟩ := old
        exact ⟨b, rfl, eb, own b d rfl rfl ob⟩
      | par d =>
        obtain ⟨b, rfl, e0, eb, ob⟩ := old
        exact ⟨b, rfl, e0, eb, own b d rfl rfl ob⟩
      | exc c f d =>
        obtain ⟨a', cls, dd, v, q1, q2, q3, q4, q5⟩ := old
        exact ⟨a', cls, dd, v, q1, q2, q3, k2 _ _ q4, q5.mono k2⟩
  · by_cases hj : i = j
    · subst hj
      rw [List.getElem?_set_self hlen] at e2
      cases e2; cases o1
    · rw [List.getElem?_set_ne hj] at e2
      by_cases hk : i = k
      · subst hk
        rw [List.getElem?_set_self hlen] at e3
        cases e3; cases o2
      · rw [List.getElem?_set_ne hk] at e3
        exact hs.dist j k t u b hjk e2 e3 o1 o2 q1 q2
/-- a dict of one's own is put among what is for good: it is locked -/
theorem StOk.frzD {G : Glob} {P H : Hp} {σ : L2.St} {st : ES} (hs : StOk G F P H σ st) {i : Nat} {d : M.D} (hd : ¬ nd d = true) (hi : st[i]? = some (.own d)) : ∃ (a : Addr) (o : HO), H a = some o ∧ Mut (some o) ∧ ∀ od, ∃ P2, GrS F P P2 ∧ StOk G F P2 (upd H a (.frz od o)) σ (st.set i (.val d)) := by
  obtain ⟨ov, e1, a, rfl, hB, ho⟩ := hs.at_ hi
  obtain ⟨o, h1, h2⟩ := ho.at_
  have hlen : i < st.length := (List.getElem?_eq_some_iff.mp hi).1
  have k2 : ∀ od, Same P (upd P a (.frz od o)) := fun od => same_new ho.no
  have rp : ∀ od, Rep G (upd P a (.frz od o)) d (.ref a) := fun od => by
    cases d with
    | dic t ks ds =>
      cases t <;> cases o <;> simp only [Cont] at h2
      · simp only [Rep]
        exact ⟨a, od, rfl, .inl ⟨True.intro, _, upd_same, h2.1, h2.2.mono (same_new ho.no)⟩⟩
      · simp only [Rep]
        exact ⟨a, od, rfl, .inr ⟨True.intro, _, upd_same, h2.1, h2.2.mono (same_new ho.no)⟩⟩
    | _ => exact absurd rfl hd
  have mu : Mut (some o) := by
    cases d with
    | dic t ks ds => cases t <;> cases o <;> simp only [Cont] at h2 <;> exact True.intro
    | _ => exact absurd rfl hd
  refine ⟨a, o, h1, mu, fun od => ⟨upd P a (.frz od o), ⟨k2 od, fun b x q => ?_⟩, by rw [List.length_set]; exact hs.len, fun b x q => ?_, fun b x q => ?_, fun j t ov2 e2 e3 => ?_, fun j k t u b hjk e2 e3 o1 o2 q1 q2 => ?_⟩⟩
  · by_cases hb : b = a
    · exact .inr (.inl (by rw [hb]; exact hB))
    · rw [upd_ne hb] at q; exact .inl q
  · by_cases hb : b = a
    · rw [hb, upd_same] at q ⊢; exact q
    · rw [upd_ne hb] at q ⊢; exact hs.ex _ _ q
  · rw [upd_ne (ne_of_none q hB)]; exact hs.exB _ _ q
  · by_cases hj : i = j
    · subst hj
      rw [List.getElem?_set_self hlen] at e2
      rw [e1] at e3
      cases e2; cases e3
      exact ⟨_, rfl, rp od⟩
    · rw [List.getElem?_set_ne hj] at e2
      have old := hs.slot j t ov2 e2 e3
      have nb : ∀ b, ov2 = some (V.ref b) → isOwn t = true → b ≠ a := fun b eb ot z => by
        subst eb z
        exact hs.dist i j _ t b hj hi e2 rfl ot e1 e3
      have own : ∀ b d', ov2 = some (V.ref b) → isOwn t = true → OwnAt G P H b d' → OwnAt G (upd P a (.frz od o)) (upd H a (.frz od o)) b d' := fun b d' eb ot h => by
        obtain ⟨x, j1, j2⟩ := h.at_
        exact ⟨by rw [upd_ne (nb b eb ot)]; exact h.no, x, by rw [upd_ne (nb b eb ot)]; exact j1, j2.mono (k2 od)⟩
      cases t with
      | un => trivial
      | val d => obtain ⟨v, rfl, r⟩ := old; exact ⟨v, rfl, r.mono (k2 od)⟩
      | own d =>
        obtain ⟨b, rfl, eb, ob⟩ := old
        exact ⟨b, rfl, eb, own b d rfl rfl ob⟩
      | par d =>
        obtain ⟨b, rfl, e0, eb, ob⟩ := old
        exact ⟨b, rfl, e0, eb, own b d rfl rfl ob⟩
      | exc c f d =>
        obtain ⟨a', cls, dd, v, q1, q2, q3, q4, q5⟩ := old
        exact ⟨a', cls, dd, v, q1, q2, q3, k2 od _ _ q4, q5.mono (k2 od)⟩
  · by_cases hj : i = j
    · subst hj
      rw [List.getElem?_set_self hlen] at e2
      cases e2; cases o1
    · rw [List.getElem?_set_ne hj] at e2
      by_cases hk : i = k
      · subst hk
        rw [List.getElem?_set_self hlen] at e3
        cases e3; cases o2
      · rw [List.getElem?_set_ne hk] at e3
        exact hs.dist j k t u b hjk e2 e3 o1 o2 q1 q2
theorem sSs_frz {i : Nat} {r : ISs} {ss : List Stmt} (hr : PSs X ss (tSs (gl X) F W fu r)) : PSs X ss (tSs (gl X) F W fu (.cons (.frz i) r)) := ⟨fun pins s σ H D I h => by
    obtain ⟨P, st, hs, h⟩ := h
    have h : PostS (gl X) F W D P (thenF (match st[i]? with
      | some (.own d) => .nx (st.set i (.val d))
      | some (.val _) => .nx st
      | _ => .no) fun s => evSs fu r s) := h
    cases hi : st[i]? with
    | none => rw [hi] at h; exact h.elim
    | some sl =>
      rw [hi] at h
      cases sl with
      | own d =>
        by_cases hd : nd d = true
        · obtain ⟨P2, g2, hs2⟩ := hs.frz hd hi
          exact hr.run pins s σ H D I ⟨P2, _, hs2, PostS.move h g2⟩
        · obtain ⟨a, o, h1, mu, h2⟩ := hs.frzD hd hi
          obtain ⟨od, I2⟩ := I.lock h1 mu
          obtain ⟨P2, g2, hs2⟩ := h2 od
          exact hr.run pins s σ _ D I2 ⟨P2, _, hs2, PostS.move h g2⟩
      | val d => exact hr.run pins s σ H D I ⟨P, st, hs, h⟩
      | _ => exact h.elim⟩
end
end M
set_option Elab.async false
set_option linter.all false
set_option maxRecDepth 100000
set_option maxHeartbeats 4000000
/-! M: calls that change what is handed in. -/
namespace M
open PySem L2 PySem.Spec PyProof.Rows
theorem putO_cases {st : ES} {i : Nat} {d0 : M.D} (d : M.D) (h : ownD st i = some d0) : (st[i]? = some (.own d0) ∧ putO st i d = st.set i (.own d)) ∨ (st[i]? = some (.par d0) ∧ putO st i d = st.set i (.par d)) := by
  unfold ownD at h
  split at h
  · rename_i x hx
    cases h
    exact .inl ⟨hx, by unfold putO; rw [hx]⟩
  · rename_i x hx
    cases h
    exact .inr ⟨hx, by unfold putO; rw [hx]⟩
  · cases h
/-- own or handed in, as before -/
def SameK (s s' : Sl) (d : M.D) : Prop := (∃ d0, s = .own d0 ∧ s' = .own d) ∨ (∃ d0, s = .par d0 ∧ s' = .par d)
theorem SameK.own {s s' : Sl} {d : M.D} (h : SameK s s' d) : isOwn s = true := by
  rcases h with ⟨d0, rfl, _⟩ | ⟨d0, rfl, _⟩ <;> rfl
theorem put_slot {st : ES} {i j : Nat} {d0 d : M.D} {s' : Sl} (h : ownD st i = some d0) (e : (putO st i d)[j]? = some s') : (j = i ∧ ∃ s, st[j]? = some s ∧ SameK s s' d) ∨ (j ≠ i ∧ st[j]? = some s') := by
  by_cases hj : j = i
  · subst hj
    refine .inl ⟨rfl, ?_⟩
    rcases putO_cases d h with ⟨h1, h2⟩ | ⟨h1, h2⟩
    · rw [h2, List.getElem?_set_self (List.getElem?_eq_some_iff.mp h1).1] at e
      cases e
      exact ⟨_, h1, .inl ⟨_, rfl, rfl⟩⟩
    · rw [h2, List.getElem?_set_self (List.getElem?_eq_some_iff.mp h1).1] at e
      cases e
      exact ⟨_, h1, .inr ⟨_, rfl, rfl⟩⟩
  · refine .inr ⟨hj, ?_⟩
    rcases putO_cases d h with ⟨h1, h2⟩ | ⟨h1, h2⟩ <;> rw [h2, List.getElem?_set_ne (fun z => hj z.symm)] at e <;> exact e
theorem put_len {st : ES} {i : Nat} {d0 d : M.D} (h : ownD st i = some d0) : (putO st i d).length = st.length := by
  rcases putO_cases d h with ⟨_, h2⟩ | ⟨_, h2⟩ <;> rw [h2, List.length_set]
theorem wrO_cons {k i : Nat} {ps : List (Nat × Nat)} {nd : List M.D} {st st' : ES} (h : wrO ((k, i) :: ps) nd st = some st') : ∃ d d0, nd[k]? = some d ∧ ownD st i = some d0 ∧ wrO ps nd (putO st i d) = some st' := by
  unfold wrO at h
  split at h
  · rename_i d d0 h1 h2
    exact ⟨d, d0, h1, h2, h⟩
  · cases h
theorem wrO_at : ∀ {ps : List (Nat × Nat)} {nd : List M.D} {st st' : ES}, wrO ps nd st = some st' → st'.length = st.length ∧ ∀ (j : Nat) (s' : Sl), st'[j]? = some s' →
    (∃ (k : Nat) (d : M.D) (s : Sl), (k, j) ∈ ps ∧ nd[k]? = some d ∧ st[j]? = some s ∧ SameK s s' d) ∨ ((∀ k, (k, j) ∉ ps) ∧ st[j]? = some s')
  | [], nd, st, st', h => by
    unfold wrO at h
    cases h
    exact ⟨rfl, fun j s' e => .inr ⟨fun k hk => (by cases hk), e⟩⟩
  | (k, i) :: ps, nd, st, st', h => by
    obtain ⟨d, d0, h1, h2, h3⟩ := wrO_cons h
    obtain ⟨i1, i2⟩ := wrO_at h3
    refine ⟨i1.trans (put_len h2), fun j s' e => ?_⟩
    rcases i2 j s' e with ⟨k2, d2, s, a1, a2, a3, a4⟩ | ⟨a1, a2⟩
    · refine .inl ⟨k2, d2, ?_⟩
      rcases put_slot h2 a3 with ⟨rfl, s0, b1, b2⟩ | ⟨_, b1⟩
      · refine ⟨s0, List.mem_cons_of_mem _ a1, a2, b1, ?_⟩
        rcases b2 with ⟨x, rfl, rfl⟩ | ⟨x, rfl, rfl⟩ <;> rcases a4 with ⟨y, e1, rfl⟩ | ⟨y, e1, rfl⟩
        · exact .inl ⟨_, rfl, rfl⟩
        · cases e1
        · cases e1
        · exact .inr ⟨_, rfl, rfl⟩
      · exact ⟨s, List.mem_cons_of_mem _ a1, a2, b1, a4⟩
    · rcases put_slot h2 a2 with ⟨rfl, s0, b1, b2⟩ | ⟨n, b1⟩
      · exact .inl ⟨k, d, s0, List.mem_cons_self, h1, b1, b2⟩
      · refine .inr ⟨fun k' hk => ?_, b1⟩
        rcases List.mem_cons.mp hk with e2 | e2
        · cases e2; exact n rfl
        · exact a1 k' e2
theorem wrO_own : ∀ {ps : List (Nat × Nat)} {nd : List M.D} {st st' : ES}, wrO ps nd st = some st' → ∀ k i, (k, i) ∈ ps → (∃ d, ownD st i = some d) ∧ ∃ d, nd[k]? = some d
  | [], _, _, _, _, k, i, h => by cases h
  | (k0, i0) :: ps, nd, st, st', h, k, i, hm => by
    obtain ⟨d, d0, h1, h2, h3⟩ := wrO_cons h
    rcases List.mem_cons.mp hm with e | e
    · cases e; exact ⟨⟨_, h2⟩, _, h1⟩
    · obtain ⟨⟨x, hx⟩, y⟩ := wrO_own h3 k i e
      refine ⟨?_, y⟩
      by_cases hi : i = i0
      · subst hi; exact ⟨_, h2⟩
      · refine ⟨x, ?_⟩
        unfold ownD at hx ⊢
        have e2 : (putO st i0 d)[i]? = st[i]? := by
          rcases putO_cases d h2 with ⟨_, q⟩ | ⟨_, q⟩ <;> rw [q, List.getElem?_set_ne (fun z => hi z.symm)]
        rw [e2] at hx
        exact hx
def adrO : Option (Option V) → Option Addr
  | some (some (.ref a)) => some a
  | _ => none
theorem adrO_of {o : Option (Option V)} {a : Addr} (h : adrO o = some a) : o = some (some (V.ref a)) := by
  unfold adrO at h
  split at h
  · cases h; rfl
  · cases h
/-- all but what stands at these slots -/
def lessB (H : Hp) (σ : L2.St) (ps : List (Nat × Nat)) : Hp := fun a => if ps.any (fun p => adrO σ[p.2]? == some a) = true then none else H a
theorem lessB_no {H : Hp} {σ : L2.St} {ps : List (Nat × Nat)} {k i : Nat} {a : Addr} (h : (k, i) ∈ ps) (e : σ[i]? = some (some (V.ref a))) : lessB H σ ps a = none := by
  unfold lessB
  rw [if_pos]
  refine List.any_eq_true.mpr ⟨(k, i), h, ?_⟩
  show (adrO σ[i]? == some a) = true
  rw [e]
  exact beq_self_eq_true _
theorem lessB_yes {H : Hp} {σ : L2.St} {ps : List (Nat × Nat)} {a : Addr} (h : ∀ k i, (k, i) ∈ ps → σ[i]? ≠ some (some (V.ref a))) : lessB H σ ps a = H a := by
  unfold lessB
  rw [if_neg]
  intro z
  obtain ⟨⟨k, i⟩, h1, h2⟩ := List.any_eq_true.mp z
  exact h k i h1 (adrO_of (eq_of_beq h2))
theorem lessB_same {H : Hp} {σ : L2.St} {ps : List (Nat × Nat)} : Same (lessB H σ ps) H := fun a o e => by
  unfold lessB at e
  split at e
  · cases e
  · exact e
section
variable {G : Glob} {F : Fx} {P H P' H' : Hp} {σ : L2.St} {st st' : ES}
theorem StOk.called (hs : StOk G F P H σ st) {ps : List (Nat × Nat)} {nd : List M.D} (hw : wrO ps nd st = some st') (g : GrM (lessB H σ ps) P P' H')
    (hO : ∀ (k i : Nat) (a : Addr) (d' : M.D), (k, i) ∈ ps → σ[i]? = some (some (V.ref a)) → nd[k]? = some d' → OwnAt G P' H' a d') : StOk G F P' H' σ st' ∧ GrS F P P' := by
  obtain ⟨wl, wa⟩ := wrO_at hw
  have fb : ∀ {k i : Nat} {a : Addr}, (k, i) ∈ ps → σ[i]? = some (some (V.ref a)) → F.B a = none := fun {k i a} h e => by
    obtain ⟨⟨d, hd⟩, _⟩ := wrO_own hw k i h
    obtain ⟨b, e1, _, hB⟩ := own_at hs hd
    rw [e] at e1; cases e1
    exact hB
  have keep : ∀ {b : Addr} {x : HO}, F.B b = some x → lessB H σ ps b = H b := fun {b x} h => lessB_yes fun k i hk e => by
    rw [fb hk e] at h; cases h
  have kind : ∀ {j : Nat} {s' : Sl}, st'[j]? = some s' → isOwn s' = true → ∃ s, st[j]? = some s ∧ isOwn s = true := fun {j s'} e o => by
    rcases wa j s' e with ⟨k, d, s, _, _, h3, h4⟩ | ⟨_, h⟩
    · exact ⟨s, h3, h4.own⟩
    · exact ⟨s', h, o⟩
  refine ⟨⟨hs.len.trans wl.symm, g.ph, fun b x q => ?_, fun j s' ov e1 e2 => ?_, fun i j s t a hij e1 e2 o1 o2 q1 q2 => ?_⟩, g.pp, fun a o q => ?_⟩
  · exact g.bh _ _ (by rw [keep q]; exact hs.exB _ _ q)
  · rcases wa j s' e1 with ⟨k, d, s, h1, h2, h3, h4⟩ | ⟨h1, h2⟩
    · have old := hs.slot j s ov h3 e2
      rcases h4 with ⟨d0, rfl, rfl⟩ | ⟨d0, rfl, rfl⟩
      · obtain ⟨a, rfl, eb, _⟩ := old
        exact ⟨a, rfl, eb, hO k j a d h1 e2 h2⟩
      · obtain ⟨a, rfl, e0, eb, _⟩ := old
        exact ⟨a, rfl, e0, eb, hO k j a d h1 e2 h2⟩
    · have old := hs.slot j s' ov h2 e2
      have own : ∀ (a : Addr) (d : M.D), ov = some (V.ref a) → isOwn s' = true → OwnAt G P H a d → OwnAt G P' H' a d := fun a d ea oo ho => by
        have e3 : lessB H σ ps a = H a := lessB_yes fun k i hk e => by
          obtain ⟨⟨x, hx⟩, _⟩ := wrO_own hw k i hk
          have hi : ∃ s, st[i]? = some s ∧ isOwn s = true := by
            unfold ownD at hx
            split at hx
            · exact ⟨_, by assumption, rfl⟩
            · exact ⟨_, by assumption, rfl⟩
            · cases hx
          obtain ⟨s, hs1, hs2⟩ := hi
          have nij : i ≠ j := fun z => h1 k (z ▸ hk)
          exact hs.dist i j s s' a nij hs1 h2 hs2 oo e (by rw [e2, ea])
        obtain ⟨o, k1, k2⟩ := ho.at_
        refine ⟨?_, o, g.bh _ _ (by rw [e3]; exact k1), k2.mono g.pp⟩
        cases q : P' a with
        | none => rfl
        | some x =>
          rcases g.nw a x q with z | z
          · rw [ho.no] at z; cases z
          · exact (z.not (e3.trans k1) k2.ntup).elim
      cases s' with
      | un => trivial
      | val d => obtain ⟨v, rfl, r⟩ := old; exact ⟨v, rfl, r.mono g.pp⟩
      | own d =>
        obtain ⟨a, rfl, eb, ob⟩ := old
        exact ⟨a, rfl, eb, own a d rfl rfl ob⟩
      | par d =>
        obtain ⟨a, rfl, e0, eb, ob⟩ := old
        exact ⟨a, rfl, e0, eb, own a d rfl rfl ob⟩
      | exc c f d =>
        obtain ⟨a', cls, dd, v, q1, q2, q3, q4, q5⟩ := old
        exact ⟨a', cls, dd, v, q1, q2, q3, g.pp _ _ q4, q5.mono g.pp⟩
  · obtain ⟨s1, b1, b2⟩ := kind e1 o1
    obtain ⟨s2, b3, b4⟩ := kind e2 o2
    exact hs.dist i j s1 s2 a hij b1 b3 b2 b4 q1 q2
  · rcases g.nw a o q with z | z
    · exact .inl z
    · refine .inr ?_
      cases q2 : F.B a with
      | none => exact .inl q2
      | some x =>
        have kk := (keep q2).trans (hs.exB _ _ q2)
        rcases z with z | ⟨us, rfl, z⟩
        · rw [kk] at z; cases z
        · rw [kk] at z; cases z
          exact .inr ⟨us, rfl, q2⟩
end
/-! ### arguments -/
def MArgs (G : Glob) (σ : L2.St) (st : ES) (P : Hp) (ps : List (Nat × Nat)) : Nat → List M.D → List V → Prop
  | _, [], vs => vs = []
  | k, d :: ds, vs => ∃ v r, vs = v :: r ∧ (match ps.lookup k with | some i => σ[i]? = some (some v) ∧ getb st i = .ok d | none => Rep G P d v) ∧ MArgs G σ st P ps (k + 1) ds r
theorem MArgs.mono {G : Glob} {σ : L2.St} {st : ES} {P P' : Hp} {ps : List (Nat × Nat)} (s : Same P P') : ∀ {k : Nat} {ds : List M.D} {vs : List V}, MArgs G σ st P ps k ds vs → MArgs G σ st P' ps k ds vs
  | _, [], _, h => h
  | k, d :: ds, vs, h => by
    obtain ⟨v, r, rfl, h1, h2⟩ := h
    refine ⟨v, r, rfl, ?_, h2.mono s⟩
    cases q : ps.lookup k with
    | some i => rw [q] at h1; exact h1
    | none => rw [q] at h1; exact h1.mono s
theorem MArgs.len {G : Glob} {σ : L2.St} {st : ES} {P : Hp} {ps : List (Nat × Nat)} : ∀ {k : Nat} {ds : List M.D} {vs : List V}, MArgs G σ st P ps k ds vs → vs.length = ds.length
  | _, [], vs, h => by
    have h : vs = [] := h
    subst h; rfl
  | k, d :: ds, vs, h => by
    obtain ⟨v, r, rfl, _, h2⟩ := h
    rw [List.length_cons, List.length_cons, h2.len]
theorem MArgs.get {G : Glob} {σ : L2.St} {st : ES} {P : Hp} {ps : List (Nat × Nat)} : ∀ {k : Nat} {ds : List M.D} {vs : List V}, MArgs G σ st P ps k ds vs → ∀ {j : Nat} {d : M.D} {v : V}, ds[j]? = some d → vs[j]? = some v → (match ps.lookup (k + j) with | some i => σ[i]? = some (some v) ∧ getb st i = .ok d | none => Rep G P d v)
  | _, [], _, h, j, d, v, e, _ => by simp at e
  | k, d0 :: ds, vs, h, j, d, v, e1, e2 => by
    obtain ⟨v0, r, rfl, h1, h2⟩ := h
    cases j with
    | zero =>
      simp only [List.getElem?_cons_zero, Option.some.injEq] at e1 e2
      subst e1; subst e2
      exact h1
    | succ j =>
      simp only [List.getElem?_cons_succ] at e1 e2
      have := h2.get e1 e2
      rw [show k + 1 + j = k + (j + 1) by omega] at this
      exact this
def okAs (N : List Str) (sc : Scope) (ps : List (Nat × Nat)) : Nat → IEs → List Expr → Bool
  | _, .nil, [] => true
  | k, .cons a r, e :: es => notStar e && (match ps.lookup k with
    | some i => (match a, e with
      | .bor j, .Name x _ => decide (i = j) && nameB N sc i x
      | _, _ => false)
    | none => !isB a && okE N true a sc e) && okAs N sc ps (k + 1) r es
  | _, _, _ => false
theorem okAs_star {N : List Str} {sc : Scope} {ps : List (Nat × Nat)} : ∀ {k : Nat} {l : IEs} {es : List Expr}, okAs N sc ps k l es = true → ∀ y ∈ es, notStar y = true
  | _, .nil, [], _, y, hy => by cases hy
  | _, .nil, _ :: _, h, _, _ => by cases h
  | _, .cons _ _, [], h, _, _ => by cases h
  | k, .cons a r, e :: es, h, y, hy => by
    simp only [okAs, Bool.and_eq_true] at h
    rcases List.mem_cons.mp hy with rfl | hy
    · exact h.1.1
    · exact okAs_star h.2 y hy
def tMs (G : Glob) (F : Fx) (W : WX) (ps : List (Nat × Nat)) (k : Nat) (l : IEs) : TA := fun σ H Q => ∃ P st, StOk G F P H σ st ∧ FinG G W σ P H (evEs l st) fun ds P' H' => ∀ vs, MArgs G σ st P' ps k ds vs → Q vs H'
section
variable {X : Cx} {F : Fx} {W : WX} {N : List Str} {sc : Scope} {tn : List (Str × NameKind)} {lv fu : Nat}
theorem okAs_ok (c : Cxt F W X N sc sc.names true lv) {ps : List (Nat × Nat)} : ∀ {k : Nat} {l : IEs} {es : List Expr}, okAs N sc ps k l es = true → reqEs (gl X) lv l → PA X es (tMs (gl X) F W ps k l)
  | _, .nil, [], _, _ => pa_nil.weak fun σ H Q h => by
    obtain ⟨P, st, hs, h⟩ := h
    simp only [evEs] at h
    exact FinG.at_ hs.ex h [] rfl
  | _, .nil, _ :: _, h, _ => by cases h
  | _, .cons _ _, [], h, _ => by cases h
  | k, .cons a l, e :: es, h, r => by
    simp only [okAs, Bool.and_eq_true] at h
    obtain ⟨⟨hn, h1⟩, h2⟩ := h
    have ht := okAs_ok c h2 r.2
    have tail : ∀ {σ : L2.St} {P1 H1 : Hp} {st : ES} {d : M.D} {v : V} {Q : List V → Hp → Prop}, StOk (gl X) F P1 H1 σ st → (match ps.lookup k with | some i => σ[i]? = some (some v) ∧ getb st i = .ok d | none => Rep (gl X) P1 d v) →
        FinG (gl X) W σ P1 H1 ((evEs l st).bind fun xs => .ok (d :: xs)) (fun ds P' H' => ∀ vs, MArgs (gl X) σ st P' ps k ds vs → Q vs H') → tMs (gl X) F W ps (k + 1) l σ H1 fun vs H2 => Q (v :: vs) H2 := fun {σ P1 H1 st d v Q} hs hv h => by
      refine ⟨P1, st, hs, h.bind fun ds P2 H2 _ g f vs m => ?_⟩
      refine FinG.at_ g.ph f (v :: vs) ⟨v, vs, rfl, ?_, m⟩
      cases q : ps.lookup k with
      | some i => rw [q] at hv; exact hv
      | none => rw [q] at hv; exact hv.mono g.pp
    cases q : ps.lookup k with
    | some i =>
      rw [q] at h1
      cases a with
      | bor j =>
        cases e with
        | Name x p =>
          simp only [Bool.and_eq_true, decide_eq_true_eq] at h1
          obtain ⟨rfl, h1⟩ := h1
          refine (pa_cons (pv c h1) ht (star_ok hn)).weak fun σ H Q h => ?_
          obtain ⟨P, st, hs, h⟩ := h
          simp only [evEs, evE] at h
          rcases getb_cases (st := st) (i := i) with ⟨d, e⟩ | e
          · rw [e] at h
            obtain ⟨v, h1, _⟩ := getb_val hs e
            exact ⟨v, h1, tail hs (by rw [q]; exact ⟨h1, e⟩) h⟩
          · rw [e] at h; exact h.elim
        | _ => cases h1
      | _ => cases h1
    | none =>
      rw [q] at h1
      simp only [Bool.and_eq_true, Bool.not_eq_true'] at h1
      refine (pa_cons (okE_ok c a e h1.2 r.1) ht (star_ok hn)).weak fun σ H Q h => ?_
      obtain ⟨P, st, hs, h⟩ := h
      simp only [evEs] at h
      exact E_bindS h1.1 hs h fun d v P1 H1 _ g1 r1 h1 => tail (hs.grow g1) (by rw [q]; exact r1) h1
theorem look_mem {ps : List (Nat × Nat)} : ∀ {k i : Nat}, ps.lookup k = some i → (k, i) ∈ ps := by
  induction ps with
  | nil => intro k i h; cases h
  | cons p ps ih =>
    obtain ⟨a, b⟩ := p
    intro k i h
    rw [List.lookup_cons] at h
    split at h
    · rename_i hk
      cases h
      rw [eq_of_beq hk]
      exact List.mem_cons_self
    · exact List.mem_cons_of_mem _ (ih h)
theorem look_of {ps : List (Nat × Nat)} : ∀ {k : Nat}, k ∈ ps.map (·.1) → ∃ i, ps.lookup k = some i := by
  induction ps with
  | nil => intro k h; cases h
  | cons p ps ih =>
    obtain ⟨a, b⟩ := p
    intro k h
    rw [List.lookup_cons]
    split
    · exact ⟨_, rfl⟩
    · rename_i hk
      rcases List.mem_cons.mp h with e | e
      · exfalso
        have e : k = a := e
        rw [e, beq_self_eq_true] at hk
        cases hk
      · exact ih e
theorem look_at {ps : List (Nat × Nat)} (hn : (ps.map (·.1)).Nodup) : ∀ {k i : Nat}, (k, i) ∈ ps → ps.lookup k = some i := by
  induction ps with
  | nil => intro k i h; cases h
  | cons p ps ih =>
    obtain ⟨a, b⟩ := p
    intro k i h
    rw [List.map_cons, List.nodup_cons] at hn
    rw [List.lookup_cons]
    rcases List.mem_cons.mp h with e | e
    · cases e
      rw [beq_self_eq_true]
    · split
      · rename_i hk
        exfalso
        refine hn.1 ?_
        rw [← eq_of_beq hk]
        exact List.mem_map.mpr ⟨(k, i), e, rfl⟩
      · exact ih hn.2 e
theorem two_slots {ps : List (Nat × Nat)} (hn : (ps.map (·.2)).Nodup) : ∀ {k k' i : Nat}, (k, i) ∈ ps → (k', i) ∈ ps → k = k' := by
  induction ps with
  | nil => intro k k' i h; cases h
  | cons p ps ih =>
    intro k k' i h h'
    rw [List.map_cons, List.nodup_cons] at hn
    rcases List.mem_cons.mp h with e | e <;> rcases List.mem_cons.mp h' with e' | e'
    · rw [← e] at e'; cases e'; rfl
    · exfalso
      refine hn.1 ?_
      rw [← e]
      exact List.mem_map.mpr ⟨(k', i), e', rfl⟩
    · exfalso
      refine hn.1 ?_
      rw [← e']
      exact List.mem_map.mpr ⟨(k, i), e, rfl⟩
    · exact ih hn.2 e e'
def okSCal (N : List Str) (sc : Scope) (cm : Bool) (n : Str) (ps : List (Nat × Nat)) (l : IEs) (s : Stmt) : Bool := match s with
  | .Expr (.Call (.Name x _) (y :: ys) [] _) _ => cm && gnB sc n x && decide (ps.map (·.1)).Nodup && decide (ps.map (·.2)).Nodup && ps.all (fun p => decide (p.1 < lenEs l)) && okAs N sc ps 0 l (y :: ys)
  | _ => false
theorem okSCal_ok {cm : Bool} (c : Cxt F W X N sc sc.names cm lv) {n : Str} {Fn : List M.D → R (M.D × List M.D)} {ps : List (Nat × Nat)} {l : IEs} {s : Stmt} (h : okSCal N sc cm n ps l s = true) (hc : CallMOk (gl X) lv n (lenEs l) (ps.map (·.1)) Fn) (hr : reqEs (gl X) lv l) :
    PS X s (tS (gl X) F W fu (.cal n Fn ps l)) := by
  unfold okSCal at h
  split at h
  · rename_i x p y ys pos pos2
    simp only [Bool.and_eq_true, decide_eq_true_eq] at h
    obtain ⟨⟨⟨⟨⟨rfl, h1⟩, hn1⟩, hn2⟩, hk0⟩, h2⟩ := h
    obtain ⟨rfl, h3, h4⟩ := gnB_ok h1
    have hn := okAs_star h2
    obtain ⟨k, f, fd, pn, hk, hf, hm, hkeep, hb⟩ := hc.ex
    refine (ps_expr (pe_callS hf ((c.room rfl).mono hk) (gl_of (by rw [c.hs]; exact h3)) hm hkeep hb (fun σ => passAt c.tk σ) (okAs_ok c h2 hr) h4 (star_ok (hn y List.mem_cons_self)) (plain_ok fun z hz => hn z (List.mem_cons_of_mem _ hz))) (swaps_no rfl)).weak fun D σ H hq => ?_
    obtain ⟨P, st, hs, hq⟩ := hq
    simp only [evS] at hq
    refine ⟨P, st, hs, F_bind hs hq fun ds P1 H1 e1 g1 q1 vs m => ?_⟩
    have hs1 := hs.grow g1
    cases eF : Fn ds with
    | ok z =>
      obtain ⟨d, nd⟩ := z
      rw [eF] at q1
      simp only at q1
      split at q1
      case h_2 => exact q1.elim
      rename_i st' hw
      refine ⟨by rw [m.len, evEs_len e1], lessB H1 σ ps, P1, ds, g1.ph, lessB_same, ⟨m.len, fun i d v e2 e3 => ?_, fun i j a hij hi hj e2 e3 => ?_⟩, ?_⟩
      · have mm := m.get e2 e3
        rw [Nat.zero_add] at mm
        by_cases hi : i ∈ ps.map (·.1)
        · rw [if_pos hi]
          obtain ⟨sl, el⟩ := look_of hi
          rw [el] at mm
          obtain ⟨m1, m2⟩ := mm
          have hmem := look_mem el
          obtain ⟨⟨d0, hd0⟩, _⟩ := wrO_own hw i sl hmem
          obtain ⟨a, b1, b2, b3⟩ := own_at hs1 hd0
          rw [b1] at m1
          cases m1
          refine ⟨a, rfl, lessB_no hmem b1, ?_⟩
          have : d = d0 := by
            unfold getb at m2
            unfold ownD at hd0
            split at hd0
            · rename_i x hx
              rw [hx] at m2; cases hd0; cases m2; rfl
            · rename_i x hx
              rw [hx] at m2; cases hd0; cases m2; rfl
            · cases hd0
          rw [this]; exact b2
        · rw [if_neg hi]
          cases el : ps.lookup i with
          | none => rw [el] at mm; exact mm
          | some sl => exact absurd (List.mem_map.mpr ⟨(i, sl), look_mem el, rfl⟩) hi
      · obtain ⟨si, ei⟩ := look_of hi
        obtain ⟨sj, ej⟩ := look_of hj
        have li : i < ds.length := by rw [← m.len]; exact (List.getElem?_eq_some_iff.mp e2).1
        have lj : j < ds.length := by rw [← m.len]; exact (List.getElem?_eq_some_iff.mp e3).1
        have mi := m.get (List.getElem?_eq_getElem li) e2
        have mj := m.get (List.getElem?_eq_getElem lj) e3
        rw [Nat.zero_add, ei] at mi
        rw [Nat.zero_add, ej] at mj
        have nij : si ≠ sj := fun z => hij (two_slots hn2 (look_mem ei) (z ▸ look_mem ej))
        have ow : ∀ {k s : Nat}, (k, s) ∈ ps → ∃ t, st[s]? = some t ∧ isOwn t = true := fun {k s} hk => by
          obtain ⟨⟨x, hx⟩, _⟩ := wrO_own hw k s hk
          unfold ownD at hx
          split at hx
          · exact ⟨_, by assumption, rfl⟩
          · exact ⟨_, by assumption, rfl⟩
          · cases hx
        obtain ⟨s1, a1, a2⟩ := ow (look_mem ei)
        obtain ⟨s2, a3, a4⟩ := ow (look_mem ej)
        exact hs1.dist si sj s1 s2 a nij a1 a3 a2 a4 mi.1 mj.1
      · rw [eF]
        intro v P' H' g rv ho
        obtain ⟨hs2, gS⟩ := hs1.called hw g fun k i a d' hk e2 e3 => by
          refine ho k a d' (List.mem_map.mpr ⟨(k, i), hk, rfl⟩) ?_ e3
          have lk : k < ds.length := by
            rw [evEs_len e1]
            exact of_decide_eq_true (List.all_eq_true.mp hk0 (k, i) hk)
          have mk := m.get (List.getElem?_eq_getElem lk) (List.getElem?_eq_getElem (by rw [m.len]; exact lk))
          rw [Nat.zero_add, look_at hn1 hk] at mk
          obtain ⟨m1, _⟩ := mk
          rw [e2] at m1
          rw [List.getElem?_eq_getElem (by rw [m.len]; exact lk)]
          exact (Option.some.inj m1).symm
        exact q1 σ P' H' ((g1.toS hs.exB).trans gS) hs2
    | err _ _ => rw [eF] at q1; exact q1.elim
    | bad => rw [eF] at q1; exact q1.elim
  · cases h
end
end M
set_option Elab.async false
set_option linter.all false
set_option maxRecDepth 100000
set_option maxHeartbeats 4000000
/-! M, part T: raise, try. -/
namespace M
open PySem L2 PySem.Spec PyProof.Rows

/-! ### several clauses, some of them with a name -/
abbrev Cl := Value × Option Nat × (Addr → Value → Option Addr → TS)
def clD (D : Ends) : Option Nat → Ends
  | none => D
  | some i => { nx := fun σ' H' => D.nx (σ'.set i none) H', rt := D.rt, bk := fun σ' H' => D.bk (σ'.set i none) H', ct := fun σ' H' => D.ct (σ'.set i none) H' }
def clS (σ : L2.St) (a : Addr) : Option Nat → L2.St
  | none => σ
  | some i => σ.set i (some (.ref a))
def wAll (K : PySem.W.Frag) (Wout : WX) (D : Ends) : List Cl → WX
  | [] => Wout
  | (c, o, ts) :: r => fun cls d σ H => ∃ b, PySem.W.exmOne K cls c = some b ∧ (b = true → ∀ a, H a = none → ts a cls d (clD D o) (clS σ a o) H) ∧ (b = false → wAll K Wout D r cls d σ H)
def NmOk (X : Cx) (n : Option Str) : Option Nat → Prop
  | none => n = none
  | some i => ∃ x, n = some x ∧ X.N[i]? = some x ∧ X.env.kindOf x = some .local
inductive HdA (X : Cx) : List ExceptHandler → List Cl → Prop
  | nil : HdA X [] []
  | cons {x : Str} {c : Value} {n : Option Str} {o : Option Nat} {ts : Addr → Value → Option Addr → TS} {b₀ : Stmt} {suite : List Stmt} {np pos' : Pos} {hds : List ExceptHandler} {l : List Cl} (hc : Names X x c) (hn : NmOk X n o)
      (hsu : ∀ (a : Addr) (oe : Obj) (cls : Value) (d : Option Addr) (pn : List (Addr × Obj)), Zc cls d oe → (∃ vs, oe.data = .fields vs) → PSs (X.suite a ((a, oe) :: pn)) (b₀ :: suite) (ts a cls d)) (r : HdA X hds l) :
      HdA X (.ExceptHandler (some (.Name x np)) n (b₀ :: suite) pos' :: hds) ((c, o, ts) :: l)
/-- an exception at hand in this frame: what stands when its clauses are looked at -/
structure Hand (X : Cx) (pins : List (Addr × Obj)) (a : Addr) (cls : Value) (dx : Option Addr) (σ : L2.St) (H : Hp) (s : Shared) : Prop where
  ex : ∃ (B : Heap) (i : Shared), Inv X pins σ H i ∧ (∀ b o, i.heap.get? b = some o → b ∉ frs X.stack → B.get? b = some o) ∧ i.heap.UpToSlots s.heap ∧ HandSPX.FlyingZ B X.stack a (Zc cls dx) s.heap ∧ s.os = i.os ∧ AllBare s.gens
  fresh : H a = none
  own : X.stack = X.env :: X.outer
  frame : X.env.frame = some X.env.locals
section
variable {X : Cx} {pins : List (Addr × Obj)} {a : Addr} {cls : Value} {dx : Option Addr} {σ : L2.St} {H : Hp} {s : Shared}
theorem Hand.inv (h : Hand X pins a cls dx σ H s) : Inv X pins σ H s := by
  obtain ⟨B, i, J, nb, up, fl, os, ag⟩ := h.ex
  exact J.landed nb fl.1 up os ag
theorem Hand.obj (h : Hand X pins a cls dx σ H s) : ∃ oe vs, s.heap.get? a = some oe ∧ Zc cls dx oe ∧ oe.data = .fields vs ∧ a ∉ frs X.stack := by
  obtain ⟨B, i, J, nb, up, fl, os, ag⟩ := h.ex
  obtain ⟨oe, vs, e1, e2, e3⟩ := fl.there
  refine ⟨oe, vs, e1, e2, e3, fun hm => ?_⟩
  obtain ⟨_, o2, e4, e5⟩ := fl.2.2.1.mem hm
  rw [e1] at e4
  cases e4
  exact e5 _ e3
/-- its clause's suite may be entered -/
theorem Hand.enter (h : Hand X pins a cls dx σ H s) : ∃ oe, Zc cls dx oe ∧ (∃ vs, oe.data = .fields vs) ∧ s.heap.get? a = some oe ∧ Inv (X.suite a ((a, oe) :: (X.pn ++ pins))) [] σ H s := by
  obtain ⟨oe, vs, e1, e2, e3, e4⟩ := h.obj
  have self : a ≠ X.env.locals := fun z => e4 (by
    rw [h.own]
    exact List.mem_filterMap.mpr ⟨X.env, List.mem_cons_self, by rw [h.frame, z]⟩)
  have others : a ∉ X.fs := fun hm => e4 (by
    obtain ⟨v, v1, v2⟩ := List.mem_filterMap.mp hm
    rw [h.own]
    exact List.mem_filterMap.mpr ⟨v, List.mem_cons_of_mem _ v1, v2⟩)
  exact ⟨oe, e2, ⟨vs, e3⟩, e1, h.inv.suite e1 e3 h.fresh self others⟩
/-- it stays at hand while heaps differ in slots alone -/
theorem Hand.on {h' : Heap} {B : Heap} {i : Shared} (h : Hand X pins a cls dx σ H s) (J : Inv X pins σ H i) (nb : ∀ b o, i.heap.get? b = some o → b ∉ frs X.stack → B.get? b = some o) (up : i.heap.UpToSlots h') (fl : HandSPX.FlyingZ B X.stack a (Zc cls dx) h') (os : s.os = i.os) (ag : AllBare s.gens) :
    Hand X pins a cls dx σ H { s with heap := h' } := ⟨⟨B, i, J, nb, up, fl, os, ag⟩, h.fresh, h.own, h.frame⟩
theorem Hand.free {Q : Unit → Shared → Prop} {E : Value → Shared → Prop} {M : Model} {A : Around} (h : Hand X pins a cls dx σ H s) (q : ∀ h', Hand X pins a cls dx σ H { s with heap := h' } → Q () { s with heap := h' }) : wpAny M A (setFlight (.ref a) none) Q E s := by
  obtain ⟨B, i, J, nb, up, fl, os, ag⟩ := h.ex
  exact HandSPX.lands_againZ fl fun h' fl' up' => q h' (h.on J nb (up.trans up') fl' os ag)
/-- no clause took it: it flies on -/
theorem Hand.pass {W : WX} {Q : Flow → Shared → Prop} (h : Hand X pins a cls dx σ H s) (tk : Takes X W) (w : W cls dx σ H) : wpAny (model X.prog X.w) X.A (handleBy (.ref a) X.env []) Q X.xe s := by
  obtain ⟨B, i, J, nb, up, fl, os, ag⟩ := h.ex
  refine wpAny_handleBy_nil ?_
  obtain ⟨_, _, _, oe, vs, T, _, _, e1, _, e2, e3, _⟩ := id fl
  have go : wpAny (model X.prog X.w) X.A (setFlight (.ref a) X.env.frame) (fun _ t => wpAny (model X.prog X.w) X.A (throw (.ref a) : Sem Flow) Q X.xe t) X.xe s := by
    rw [h.frame]
    have fl2 := fl
    rw [h.own] at fl2
    refine HandSPX.setFlight_upZ fl2 fun g held up2 => wpAny_throw (tk _ _ ?_)
    refine ⟨a, B, i, pins, σ, H, cls, dx, rfl, J, nb, up.trans up2, .inr (.inr ?_), h.fresh, os, ag, w⟩
    rw [h.own]
    exact held
  have ne : ¬ ((Value.ref T == Value.none) = true) := by simp
  unfold PySem.passOn
  refine wpAny_bind (wpAny_field e1 e2 e3 ?_)
  rw [if_neg ne]
  first | exact wpAny_bind go | exact wpAny_bind (wpAny_pure (wpAny_bind go))
/-- the test of a clause -/
theorem Hand.test {x : Str} {c : Value} {np : Pos} {Q : Value → Shared → Prop} {E : Value → Shared → Prop} (h : Hand X pins a cls dx σ H s) (hc : Names X x c) (q : Q c s) : wpAny (model X.prog X.w) (X.A.mark (some (.ref a))) (eval (.Name x np) X.env) Q E s := by
  obtain ⟨oe, _, _, _, S⟩ := h.enter
  obtain ⟨g1, g2, g3⟩ := hc
  rcases g3 with g3 | ⟨g3, g4, g5⟩
  · exact ld_glob (X := X.suite a ((a, oe) :: (X.pn ++ pins))) S g1 g3 q g2
  · exact ld_blt (X := X.suite a ((a, oe) :: (X.pn ++ pins))) S g1 g3 g4 q g5 g2
end
section
variable {X : Cx} {W : WX} {D : Ends}
/-- a flow of a suite, told of the def again -/
theorem SP.back {pins : List (Addr × Obj)} {a : Addr} {oe : Obj} {f : Flow} {s : Shared} (ok : X.Ok) (h : SP (X.suite a ((a, oe) :: (X.pn ++ pins))) [] D f s) : SP X pins D f s := by
  cases f with
  | ret u => obtain ⟨v, σ', H', J, r, q⟩ := h; exact ⟨v, σ', H', J.unsuite ok, r, q⟩
  | next => obtain ⟨σ', H', J, q⟩ := h; exact ⟨σ', H', J.unsuite ok, q⟩
  | brk => obtain ⟨σ', H', J, q⟩ := h; exact ⟨σ', H', J.unsuite ok, q⟩
  | cont => obtain ⟨σ', H', J, q⟩ := h; exact ⟨σ', H', J.unsuite ok, q⟩
/-- the clauses, one after the other -/
theorem clauses_ok (hN : X.N.Nodup) (tk : Takes X W) {hds : List ExceptHandler} {l : List Cl} (hk : HdA X hds l) : ∀ {pins : List (Addr × Obj)} {a : Addr} {cls : Value} {dx : Option Addr} {σ : L2.St} {H : Hp} {s : Shared}, Hand X pins a cls dx σ H s → wAll X.K W D l cls dx σ H →
    wpAny (model X.prog X.w) X.A (handleBy (.ref a) X.env hds) (SP X pins D) X.xe s := by
  induction hk with
  | nil => exact fun h w => h.pass tk w
  | @cons x c n o ts b₀ suite np pos' more l2 hc hn hsu _ ih =>
    intro pins a cls dx σ H s h w
    obtain ⟨yes, e, wy, wn⟩ := w
    obtain ⟨oe, z1, z2, z3, _⟩ := h.enter
    have ty : PySem.W.Looks (model X.prog X.w) s.heap (typeOf (.ref a)) cls := fun _ _ _ _ k q => wpAny_typeOf_ref (k _ _ z3) (by rw [z1.1]; exact q)
    refine wpAny_handleBy_cons (codeAny_handlers_test ?_) (fun z => by cases z)
    refine h.test hc ((PySem.W.exm_one (M := model X.prog X.w) h.inv.kIn ty e).here ?_)
    cases yes with
    | false => exact ih h (wn rfl)
    | true =>
      have wy := wy rfl a h.fresh
      cases o with
      | none =>
        obtain rfl : n = none := hn
        refine codeAny_handlers_suite (h.free fun h' hh => ?_)
        obtain ⟨o2, y1, y2, y3, S⟩ := hh.enter
        exact wpAny_mono ((hsu a o2 cls dx (X.pn ++ pins) y1 y2).run [] _ σ H D S wy) (fun f s6 r => SP.back h.inv.ok r) fun _ _ z => z.elim
      | some i =>
        obtain ⟨y, rfl, hi, hl⟩ := hn
        refine codeAny_handlers_suite_as (h.free fun h' hh => ?_)
        obtain ⟨o2, y1, y2, y3, S⟩ := hh.enter
        refine store_ok (X := X.suite a ((a, o2) :: (X.pn ++ pins))) (v := .ref a) S hN hi (.inl hl) rfl (fun s5 S5 => ?_) (.inr hl)
        refine wpAny_mono ((hsu a o2 cls dx (X.pn ++ pins) y1 y2).run [] s5 _ H _ S5 wy) (fun f s6 r => ?_) fun _ _ z => z.elim
        have r := SP.back h.inv.ok r
        cases f with
        | ret u => obtain ⟨v, σ', H', J, rv, q⟩ := r; exact gone_ok J hN hi hl fun s7 J7 => ⟨v, _, H', J7, rv, q⟩
        | next => obtain ⟨σ', H', J, q⟩ := r; exact gone_ok J hN hi hl fun s7 J7 => ⟨_, H', J7, q⟩
        | brk => obtain ⟨σ', H', J, q⟩ := r; exact gone_ok J hN hi hl fun s7 J7 => ⟨_, H', J7, q⟩
        | cont => obtain ⟨σ', H', J, q⟩ := r; exact gone_ok J hN hi hl fun s7 J7 => ⟨_, H', J7, q⟩
end
section
variable {X : Cx} {body : List Stmt} {h₀ : ExceptHandler} {hds : List ExceptHandler} {l : List Cl} {pos : Pos} {tb : WX → TS} {Wout : WX}
theorem ps_try_all (hs : X.stack = X.env :: X.outer) (hf : X.env.frame = some X.env.locals) (hN : X.N.Nodup) (tk : Takes X Wout)
    (hb : ∀ (W : WX) (pn : List (Addr × Obj)) (xe : Value → Shared → Prop), Takes (X.tr pn xe) W → PassesOwn (model X.prog X.w) X.A X.env xe → PSs (X.tr pn xe) body (tb W)) (hh : HdA X (h₀ :: hds) l) :
    PS X (.Try body (h₀ :: hds) [] [] pos) (fun D σ H => tb (wAll X.K Wout D l) D σ H) := ⟨fun pins s σ H D I h => by
  have frames : X.A.frames = some (X.env :: X.outer) := by rw [← hs]; exact I.ok.frames
  refine wpAny_Try_except (wpAny_mono ((hb (wAll X.K Wout D l) (X.pn ++ pins) _ (fun u t out => ?_) PassesOwn.looking).run [] s σ H D (I.toTry _) h) (fun f t r => ?_) fun _ _ z => z)
  · obtain ⟨a, B, i, _, σ', H', cls, dx, rfl, J, nb, up, sky, na, os, ag, w⟩ := out
    have sky' : L2.Sky B (X.env :: X.outer) a (Zc cls dx) X.env.locals t.heap := by rw [← hs]; exact sky
    refine L2.Sky.land Zc.steady frames hf sky' fun g fl up2 => clauses_ok hN tk hh (pins := pins) ⟨⟨B, i, J.ofTry I.ok, nb, up.trans up2, ?_, os, ag⟩, na, hs, hf⟩ w
    rw [hs]
    exact fl
  · cases f with
    | ret u => obtain ⟨v, σ', H', J, rv, q⟩ := r; exact ⟨v, σ', H', J.ofTry I.ok, rv, q⟩
    | next => obtain ⟨σ', H', J, q⟩ := r; exact wpAny_execs_nil ⟨σ', H', J.ofTry I.ok, q⟩
    | brk => obtain ⟨σ', H', J, q⟩ := r; exact ⟨σ', H', J.ofTry I.ok, q⟩
    | cont => obtain ⟨σ', H', J, q⟩ := r; exact ⟨σ', H', J.ofTry I.ok, q⟩⟩
end
end M
set_option Elab.async false
set_option linter.all false
set_option maxRecDepth 100000
set_option maxHeartbeats 4000000
/-! M: calls that hand out two fresh things of one's own. -/
namespace M
open PySem L2 PySem.Spec PyProof.Rows
/-- a tuple of two fresh things of one's own -/
def OutO (G : Glob) (B P' H' : Hp) (x y : D) (v : V) : Prop := ∃ (tv a1 a2 : Addr), v = V.ref tv ∧ H' tv = some (.tup [V.ref a1, V.ref a2]) ∧ a1 ≠ a2 ∧ B a1 = none ∧ B a2 = none ∧ OwnAt G P' H' a1 x ∧ OwnAt G P' H' a2 y
def spO (G : Glob) (n : Nat) (F : List D → R (List D)) : Sp := fun vs H Q E => vs.length = n ∧ ∃ P ds, Same P H ∧ Reps G P ds vs ∧
  FinG G (fun cls d _ H' => E cls d H') [] P H (F ds) fun nd P' H' => ∀ x y v, nd = [x, y] → OutO G H P' H' x y v → Q v H'
structure CallOOk (G : Glob) (lv : Nat) (x : Str) (n : Nat) (F : List D → R (List D)) : Prop where
  ex : ∃ (k : Nat) (f : Addr) (fd : FuncData) (ps : List Str), k ≤ lv ∧ FnOk G.P G.w G.K G.mg G.base (L2.CX G.P G.w) k f fd ps (spO G n F) ∧ G.mg x = some (.ref f) ∧ PySem.W.keepIn G.K (.ref f) = true ∧ Binds G.K fd ps []
def isTupE : Expr → Bool
  | .Tuple _ _ _ => true
  | _ => false
def okSCalO (N : List Str) (sc : Scope) (cm : Bool) (n : Str) (i j : Nat) (l : IEs) (s : Stmt) : Bool := match s with
  | .Assign [tg] (.Call (.Name x _) (y :: ys) [] _) _ => cm && gnB sc n x && okP N sc.names (.t [i, j]) tg && isTupE tg && (y :: ys).all notStar && okEs N true l sc (y :: ys)
  | _ => false
section
variable {X : Cx} {F : Fx} {W : WX} {N : List Str} {sc : Scope} {lv fu : Nat}
theorem okSCalO_ok {cm : Bool} (c : Cxt F W X N sc sc.names cm lv) {n : Str} {Fn : List M.D → R (List M.D)} {i j : Nat} {l : IEs} {s : Stmt} (h : okSCalO N sc cm n i j l s = true) (hc : CallOOk (gl X) lv n (lenEs l) Fn) (hr : reqEs (gl X) lv l) :
    PS X s (tS (gl X) F W fu (.calO n Fn i j l)) := by
  unfold okSCalO at h
  split at h
  · rename_i tg x p y ys pos pos2
    simp only [Bool.and_eq_true] at h
    obtain ⟨⟨⟨⟨⟨rfl, h1⟩, hp⟩, ht⟩, hns⟩, h2⟩ := h
    obtain ⟨rfl, h3, h4⟩ := gnB_ok h1
    have hn : ∀ z ∈ y :: ys, notStar z = true := List.all_eq_true.mp hns
    cases tg with
    | Tuple ts k pt =>
      obtain ⟨k', f, fd, pn, hk, hf, hm, hkeep, hb⟩ := hc.ex
      refine (ps_asg (pe_callS hf ((c.room rfl).mono hk) (gl_of (by rw [c.hs]; exact h3)) hm hkeep hb (fun σ => passAt c.tk σ) (okEs_ok c l (y :: ys) h2 hr) h4 (star_ok (hn y List.mem_cons_self)) (plain_ok fun z hz => hn z (List.mem_cons_of_mem _ hz))) (sP c hp) (sole swaps_tup) (swapped_tup rfl) rfl).weak fun D σ H hq => ?_
      obtain ⟨P, st, hs, hq⟩ := hq
      simp only [evS] at hq
      refine FA_bind hs hq fun ds vs P1 H1 e1 g1 r1 q1 => ⟨by rw [r1.length, evEs_len e1], P1, ds, g1.ph, r1, ?_⟩
      have hs1 := hs.grow g1
      cases eF : Fn ds with
      | ok nd =>
        rw [eF] at q1
        simp only at q1
        show ∀ P' H', Gr P1 H1 P' H' → ∀ x y v, nd = [x, y] → OutO (gl X) H1 P' H' x y v → gP X.K (.t [i, j]) v σ H' D.nx
        intro P' H' g x' y' v en ho
        subst en
        simp only at q1
        obtain ⟨st', e2, q2⟩ := q1.nxR
        obtain ⟨tv, a1, a2, rfl, ht2, h12, hB1, hB2, o1, o2⟩ := ho
        cases e3 : setv st i (.own x') with
        | ok st1 =>
          rw [e3] at e2
          have e2 : setv st1 j (.own y') = .ok st' := e2
          obtain ⟨rfl, hi, _, _⟩ := setv_inv e3
          obtain ⟨rfl, hj, _, _⟩ := setv_inv e2
          have hs2 := hs1.grow g
          have away : ∀ {a : Addr}, H1 a = none → ∀ (k : Nat) (t : Sl), st[k]? = some t → isOwn t = true → σ[k]? ≠ some (some (V.ref a)) := fun {a} ha k t ek ot q => by
            have old := hs1.slot k t _ ek q
            cases t with
            | own d' =>
              obtain ⟨b, eb, _, _, o2, k1, _⟩ := old
              cases eb
              rw [ha] at k1; cases k1
            | par d' =>
              obtain ⟨b, eb, _, _, _, o2, k1, _⟩ := old
              cases eb
              rw [ha] at k1; cases k1
            | _ => cases ot
          have s1 : StOk (gl X) F P' H' (σ.set i (some (V.ref a1))) (st.set i (.own x')) := hs2.set hi ⟨a1, rfl, hs1.exB.free hB1, o1⟩ fun _ a ea k t hk ek ot => by
            cases ea
            exact away hB1 k t ek ot
          have s2 : StOk (gl X) F P' H' ((σ.set i (some (V.ref a1))).set j (some (V.ref a2))) ((st.set i (.own x')).set j (.own y')) := s1.set hj ⟨a2, rfl, hs1.exB.free hB2, o2⟩ fun _ a ea k t hk ek ot q => by
            cases ea
            by_cases hki : i = k
            · subst hki
              rw [List.getElem?_set_self (by rw [hs2.len]; exact hi)] at q
              cases q
              exact h12 rfl
            · rw [List.getElem?_set_ne hki] at ek q
              exact away hB2 k t ek ot q
          exact .inl ⟨tv, [V.ref a1, V.ref a2], rfl, .inl (.inl ht2), rfl, V.ref a1, [V.ref a2], rfl, V.ref a2, [], rfl, rfl, q2 _ P' H' (g.toS hs1.exB) s2⟩
        | err _ _ => rw [e3] at e2; cases e2
        | bad => rw [e3] at e2; cases e2
      | err _ _ => rw [eF] at q1; exact q1.elim
      | bad => rw [eF] at q1; exact q1.elim
    | _ => exact (Bool.false_ne_true ht).elim
  · cases h
end
end M
set_option Elab.async false
set_option linter.all false
set_option maxRecDepth 100000
set_option maxHeartbeats 4000000
/-! M, part U: raise, try, in the small language. -/
namespace M
open PySem L2 PySem.Spec PyProof.Rows
def Fx.at_ (F : Fx) (x : Option (Addr × Value × Option Addr)) : Fx := { F with xa := x }
section
variable {G : Glob} {F : Fx} {W : WX} {P H : Hp} {σ : L2.St} {st : ES} {D : Ends}
theorem StOk.xa (hs : StOk G F P H σ st) (hx : F.xa = none) (x : Option (Addr × Value × Option Addr)) : StOk G (F.at_ x) P H σ st :=
  ⟨hs.len, hs.ex, hs.exB, fun i s o e1 e2 => by
    have old := hs.slot i s o e1 e2
    cases s with
    | exc c f d =>
      obtain ⟨a, cls, dd, v, q, _⟩ := old
      rw [hx] at q; cases q
    | _ => exact old, hs.dist⟩
theorem StOk.out {x : Option (Addr × Value × Option Addr)} (hs : StOk G (F.at_ x) P H σ st) (h : st.all (fun s => !isExc s) = true) : StOk G F P H σ st :=
  ⟨hs.len, hs.ex, hs.exB, fun i s o e1 e2 => by
    have old := hs.slot i s o e1 e2
    cases s with
    | exc c f d =>
      have := List.all_eq_true.mp h _ (List.mem_of_getElem? e1)
      cases this
    | _ => exact old, hs.dist⟩
def clU (σ : L2.St) : Option Nat → L2.St
  | none => σ
  | some i => σ.set i none
theorem StOk.unO (hs : StOk G F P H σ st) : ∀ i : Option Nat, StOk G F P H (clU σ i) (M.unO st i)
  | none => hs
  | some i => hs.wipe [i]
theorem GrS.at_ {x : Option (Addr × Value × Option Addr)} {P P' : Hp} (g : GrS (F.at_ x) P P') : GrS F P P' := ⟨g.pp, g.nw⟩
theorem suite_post {x : Option (Addr × Value × Option Addr)} {i : Option Nat} {r : Fl} (h : PostS G F W D P (outF r i)) : PostS G (F.at_ x) WF (clD D i) P r := by
  cases r with
  | nx s =>
    simp only [outF] at h
    split at h
    · rename_i ha
      intro σ' P' H' g hs
      have := h (clU σ' i) P' H' g.at_ ((hs.unO i).out ha)
      cases i <;> exact this
    · exact h.elim
  | bk s =>
    simp only [outF] at h
    split at h
    · rename_i ha
      intro σ' P' H' g hs
      have := h (clU σ' i) P' H' g.at_ ((hs.unO i).out ha)
      cases i <;> exact this
    · exact h.elim
  | ct s =>
    simp only [outF] at h
    split at h
    · rename_i ha
      intro σ' P' H' g hs
      have := h (clU σ' i) P' H' g.at_ ((hs.unO i).out ha)
      cases i <;> exact this
    · exact h.elim
  | rt d s =>
    simp only [outF] at h
    split at h
    · rename_i ha
      intro v σ' P' H' g hs r
      have := h v (clU σ' i) P' H' g.at_ ((hs.unO i).out ha) r
      cases i <;> exact this
    · exact h.elim
  | er c p s => exact h.elim
  | no => exact h.elim
theorem inO_ok {c : Str} {p : Option (Str × M.D)} {st1 : ES} {i : Option Nat} {a : Addr} {cls : Value} {dx : Option Addr} (hs : StOk G F P H σ st) (hx : F.xa = none) (x : ExcAt G P c p cls dx) (e : inO c p st i = .ok st1) : StOk G (F.at_ (some (a, cls, dx))) P H (clS σ a i) st1 := by
  cases i with
  | none => cases e; exact hs.xa hx _
  | some j =>
    have hs' := hs.xa hx (some (a, cls, dx))
    cases p with
    | none =>
      obtain ⟨rfl, hi, _⟩ := setv_inv (show setv st j .un = .ok st1 from e)
      exact hs'.set hi trivial (fun h => by cases h)
    | some q =>
      obtain ⟨f, d⟩ := q
      obtain ⟨rfl, hi, _⟩ := setv_inv (show setv st j (.exc c f d) = .ok st1 from e)
      obtain ⟨dd, v, rfl, h2, h3⟩ := x.2 f d rfl
      exact hs'.set hi ⟨a, cls, dd, v, rfl, rfl, x.1, h2, h3⟩ (fun h => by cases h)
end
/-- what is asked of a clause: the class, and how it stands to the exceptions at hand -/
structure HdOk (G : Glob) (ks : List Str) (cl : Str) (sub : List Str) (v : Value) : Prop where
  nm : G.mg cl = some v ∨ (G.mg cl = none ∧ bootBuiltins cl = some v ∧ cl ≠ "__name__")
  ex : ∀ c ∈ ks, ∃ cls, G.mg c = some cls ∧ PySem.W.exmOne G.K cls v = some (decide (c ∈ sub))
/-- a class without __init__ -/
structure R0Ok (G : Glob) (c : Str) : Prop where
  ex : ∃ C, G.mg c = some (.ref C) ∧ PySem.W.excIn G.K C [.type "ValueError", .type "Exception", .type "BaseException", .type "object"] "ValueError.__new__" = true ∧ PySem.W.keepIn G.K (.ref C) = true ∧
    PySem.W.subIn G.K (.ref C) (.type "BaseException") = some true ∧ PySem.W.typeIn G.K (.ref C) = some (.type "type")
/-- a class whose __init__ keeps what is handed in -/
structure R1Ok (G : Glob) (lv : Nat) (c f : Str) : Prop where
  go : ∀ {X : Cx} {te : TE} {e : Expr} {p pos : Pos}, gl X = G → X.calm = true → Room lv X.A → Gl X c → (c == ("__debug__" : Str)) = false → notStar e = true → X.mg "super" = none → PE X e te →
  ∃ C, G.mg c = some (.ref C) ∧ PMk X (.Call (.Name c p) [e] [] pos) (fun σ H Q => te σ H fun y H1 => ∀ d, H1 d = none → Q (.ref C) (some d) (upd H1 d (.xd [(f, y)])))
section
variable {X : Cx} {F : Fx} {W : WX} {N : List Str} {sc : Scope} {tn : List (Str × NameKind)} {cm : Bool} {lv fu : Nat}
def clsOf (G : Glob) (F : Fx) (fu : Nat) (vs : List Value) : IHs → List Cl
  | .nil => []
  | .cons _ _ i b r => match vs with
    | v :: vs => (v, i, fun a cls d => tSs G (F.at_ (some (a, cls, d))) WF fu b) :: clsOf G F fu vs r
    | [] => []
def HdsAll (G : Glob) (ks : List Str) : List Value → IHs → Prop
  | vs, .nil => vs = []
  | vs, .cons cl sub _ _ r => ∃ v us, vs = v :: us ∧ HdOk G ks cl sub v ∧ HdsAll G ks us r
theorem try_w {G : Glob} {D : Ends} {c : Str} {p : Option (Str × M.D)} {st : ES} {ks : List Str} (hc : c ∈ ks) (hx : F.xa = none) : ∀ {h : IHs} {vs : List Value} {P : Hp}, HdsAll G ks vs h → PostS G F W D P (evH fu h c p st) →
    ∀ σ' P' H' cls dx, GrS F P P' → StOk G F P' H' σ' st → ExcAt G P' c p cls dx → wAll G.K W D (clsOf G F fu vs h) cls dx σ' H'
  | .nil, vs, P, hv, h, σ', P', H', cls, dx, g, hs, x => by
    simp only [clsOf, wAll]
    exact h σ' P' H' cls dx g hs x
  | .cons cl sub i b r, vs, P, hv, h, σ', P', H', cls, dx, g, hs, x => by
    obtain ⟨v, us, rfl, hk, hr⟩ := hv
    obtain ⟨cls', m1, m2⟩ := hk.ex c hc
    have e : cls' = cls := by
      have := x.1
      rw [m1] at this
      cases this; rfl
    subst e
    refine ⟨_, m2, fun hb a ha => ?_, fun hb => ?_⟩
    · have hin : c ∈ sub := of_decide_eq_true hb
      simp only [evH] at h
      rw [if_pos hin] at h
      split at h
      · rename_i st1 e1
        exact ⟨P', st1, inO_ok hs hx x e1, suite_post (h.move g)⟩
      · exact h.elim
    · have hin : ¬ c ∈ sub := of_decide_eq_false hb
      simp only [evH] at h
      rw [if_neg hin] at h
      exact try_w hc hx hr h σ' P' H' cls' dx g hs x
theorem sS_try (hst : X.stack = X.env :: X.outer) (hfr : X.env.frame = some X.env.locals) (c : Cxt F W X N sc sc.names true lv) (hx : F.xa = none) {ks : List Str} {b : ISs} {h : IHs} {vs : List Value} {body : List Stmt} {h₀ : ExceptHandler} {hds : List ExceptHandler} {pos : Pos}
    (hv : HdsAll (gl X) ks vs h) (hb : ∀ (W' : WX) (pn : List (Addr × Obj)) (xe : Value → Shared → Prop), Takes (X.tr pn xe) W' → PassesOwn (model X.prog X.w) X.A X.env xe → PSs (X.tr pn xe) body (tSs (gl X) F W' fu b))
    (hh : HdA X (h₀ :: hds) (clsOf (gl X) F fu vs h)) : PS X (.Try body (h₀ :: hds) [] [] pos) (tS (gl X) F W fu (.try_ ks b h)) :=
  (ps_try_all hst hfr (by rw [c.hN]; exact c.nd) c.tk hb hh).weak fun D σ H hq => by
    obtain ⟨P, st, hs, hq⟩ := hq
    simp only [evS] at hq
    refine ⟨P, st, hs, ?_⟩
    generalize evSs fu b st = rr at hq ⊢
    cases rr with
    | er c p st1 =>
      have hq : PostS (gl X) F W D P (if c ∈ ks then evH fu h c p st1 else .no) := hq
      split at hq
      · rename_i hc
        intro σ' P' H' cls dx g hs' x
        exact try_w hc hx hv hq σ' P' H' cls dx g hs' x
      · exact hq.elim
    | nx s => exact hq
    | ct s => exact hq
    | bk s => exact hq
    | rt d s => exact hq
    | no => exact hq
theorem sS_raise0 (c : Cxt F W X N sc tn true lv) {x m : Str} {j : Nat} {p p2 cp pos : Pos} (h : R0Ok (gl X) x) (hg : glB sc x = true) (hd : (x == ("__debug__" : Str)) = false) :
    PS X (.Raise (some (.Call (.Name x p) [.Constant (.str m) j p2] [] cp)) none pos) (tS (gl X) F W fu (.raise0 x)) := by
  obtain ⟨C, h1, h2, h3, h4, h5⟩ := h.ex
  refine (ps_raise (c.calm rfl) c.tk (pmk_own PySem.F.excBase_ValueError h2 h1 h3 (raises_own h4 h5) (gl_of (by rw [c.hs]; exact hg)) hd)).weak fun D σ H hq => ?_
  obtain ⟨P, st, hs, hq⟩ := hq
  exact hq σ P H (.ref C) none GrS.refl hs ⟨h1, fun f d e => by cases e⟩
theorem sS_raise1 (c : Cxt F W X N sc tn true lv) {x f : Str} {a : IE} {e : Expr} {p cp pos : Pos} (h : R1Ok (gl X) lv x f) (hb : isB a = false) (hg : glB sc x = true) (hd : (x == ("__debug__" : Str)) = false) (hn : notStar e = true) (ha : PE X e (tE (gl X) F W a)) :
    PS X (.Raise (some (.Call (.Name x p) [e] [] cp)) none pos) (tS (gl X) F W fu (.raise1 x f a)) := by
  obtain ⟨C, h1, h2⟩ := h.go (X := X) (p := p) (pos := cp) rfl (c.calm rfl) (c.room rfl) (gl_of (by rw [c.hs]; exact hg)) hd hn (c.bi _ (by decide)) ha
  refine (ps_raise (c.calm rfl) c.tk h2).weak fun D σ H hq => ?_
  obtain ⟨P, st, hs, hq⟩ := hq
  simp only [evS] at hq
  refine FE_bind hb hs hq fun d v P1 H1 e1 g r k => ?_
  intro dx hdx
  have g2 := Gr.laid (o := HO.xd [(f, v)]) g.ph hdx
  have hs2 := (hs.grow g).grow g2
  exact k σ (upd P1 dx (.xd [(f, v)])) (upd H1 dx (.xd [(f, v)])) (.ref C) (some dx) (g2.toS (hs.grow g).exB) hs2 ⟨h1, fun f' d' e => by
    cases e
    exact ⟨dx, v, rfl, upd_same, r.mono g2.pp⟩⟩
theorem sS_dead {s : Stmt} : PS X s (tS (gl X) F W fu .dead) := ps_never.weak fun D σ H hq => by
  obtain ⟨P, st, hs, hq⟩ := hq
  exact hq.elim
end
end M
set_option Elab.async false
set_option linter.all false
set_option maxRecDepth 100000
set_option maxHeartbeats 4000000
/-! M, part V: the theorem of all statements. -/
namespace M
open PySem L2 PySem.Spec PyProof.Rows

def nmB (N : List Str) (sc : Scope) (n : Option Str) : Option Nat → Bool
  | none => n.isNone
  | some i => match n with
    | some x => decide (N[i]? = some x) && isLocB sc x
    | none => false
def augB : BOp → Operator → Bool
  | .add, .Add => true
  | .sub, .Sub => true
  | _, _ => false
theorem augB_ok {op : BOp} {o : Operator} (h : augB op o = true) : (op = .add ∧ o = .Add) ∨ (op = .sub ∧ o = .Sub) := by
  cases op <;> cases o <;> first | exact .inl ⟨rfl, rfl⟩ | exact .inr ⟨rfl, rfl⟩ | cases h
def isFrz : IS → Bool
  | .frz _ => true
  | _ => false
/-- a plain store to a name, in a suite too -/
def okNm (N : List Str) (sc : Scope) (cm : Bool) (a : IE) (p : Pat) (tg e : Expr) : Bool :=
  okE N cm a sc e && notComp e && (match p, tg with
    | .n i, .Name y _ => decide (N[i]? = some y) && stoB sc.names y
    | _, _ => false)
def okSAsg (N : List Str) (sc : Scope) (cm : Bool) (p : Pat) (a : IE) (s : Stmt) : Bool := match s with
  | .Assign [tg] e _ => !isB a && ((cm && okAsg N sc a p tg e) || okNm N sc cm a p tg e)
  | _ => false
def okSOwn (N : List Str) (sc : Scope) (cm : Bool) (p : Pat) (a : IE) (s : Stmt) : Bool := match s with
  | .Assign [tg] e _ => !isBr a && ((cm && okAsg N sc a p tg e) || okNm N sc cm a p tg e)
  | _ => false
def okSPar (N : List Str) (sc : Scope) (cm : Bool) (i j : Nat) (a b : IE) (s : Stmt) : Bool := match s with
  | .Assign [.Tuple [.Name x px, .Name y py] _ _] (.Tuple [ea, eb] _ _) _ => cm && decide (N[i]? = some x) && decide (N[j]? = some y) && decide (i ≠ j) && par2B sc x y px py [ea, eb] && okEs N true (.cons a (.cons b .nil)) sc [ea, eb]
  | _ => false
def okSPar3 (N : List Str) (sc : Scope) (cm : Bool) (i j k : Nat) (a b d : IE) (s : Stmt) : Bool := match s with
  | .Assign [.Tuple [.Name x px, .Name y py, .Name z pz] _ _] (.Tuple [ea, eb, ed] _ _) _ => cm && decide (N[i]? = some x) && decide (N[j]? = some y) && decide (N[k]? = some z) && decide (i ≠ j) && decide (i ≠ k) && decide (j ≠ k) && par3B sc x y z px py pz [ea, eb, ed] &&
      okEs N true (.cons a (.cons b (.cons d .nil))) sc [ea, eb, ed]
  | _ => false
def okSAug (N : List Str) (sc : Scope) (cm : Bool) (i : Nat) (op : BOp) (a : IE) (s : Stmt) : Bool := match s with
  | .AugAssign (.Name x _) o e _ => decide (N[i]? = some x) && stoB sc.names x && !isB a && augB op o && okE N cm a sc e
  | _ => false
def okSM1 (nm : Str) (N : List Str) (sc : Scope) (cm : Bool) (i : Nat) (a : IE) (s : Stmt) : Bool := match s with
  | .Expr (.Call (.Attribute (.Name x _) f ap) [e] [] cp) _ => decide (f = nm) && nameB N sc i x && !isB a && notStar e && (ap.endLine == cp.line) && okE N cm a sc e
  | _ => false
def okSSeti (N : List Str) (sc : Scope) (cm : Bool) (i : Nat) (k a : IE) (s : Stmt) : Bool := match s with
  | .Assign [.Subscript (.Name x _) ek _] e _ => nameB N sc i x && !isB a && !isB k && notSlice ek && okE N cm k sc ek && okE N cm a sc e
  | _ => false
def okSSetf (N : List Str) (sc : Scope) (cm : Bool) (i : Nat) (f : Str) (a : IE) (s : Stmt) : Bool := match s with
  | .Assign [.Attribute (.Name x _) g _] e _ => decide (f = g) && nameB N sc i x && !isB a && okE N cm a sc e
  | _ => false
def okSPop0 (N : List Str) (sc : Scope) (cm : Bool) (t j : Nat) (s : Stmt) : Bool := match s with
  | .Assign [.Name y _] (.Call (.Attribute (.Name x _) f ap) [] [] cp) _ => cm && decide (f = "pop") && nameB N sc j x && (ap.endLine == cp.line) && decide (N[t]? = some y) && stoB sc.names y
  | _ => false
def okSPopI (N : List Str) (sc : Scope) (cm : Bool) (t j : Nat) (k : IE) (s : Stmt) : Bool := match s with
  | .Assign [.Name y _] (.Call (.Attribute (.Name x _) f ap) [e] [] cp) _ => cm && decide (f = "pop") && nameB N sc j x && !isB k && notStar e && (ap.endLine == cp.line) && okE N true k sc e && decide (N[t]? = some y) && stoB sc.names y
  | _ => false
def okSPop0d (N : List Str) (sc : Scope) (j : Nat) (s : Stmt) : Bool := match s with
  | .Expr (.Call (.Attribute (.Name x _) f ap) [] [] cp) _ => decide (f = "pop") && nameB N sc j x && (ap.endLine == cp.line)
  | _ => false
def okSDrop (N : List Str) (sc : Scope) (cm : Bool) (a : IE) (s : Stmt) : Bool := match s with
  | .Expr e _ => notComp e && okE N cm a sc e
  | _ => false
def okSRet (N : List Str) (sc : Scope) (cm : Bool) (a : IE) (s : Stmt) : Bool := match s with
  | .Return (some e) _ => !isB a && okE N cm a sc e
  | _ => false
def okSRetN (s : Stmt) : Bool := match s with
  | .Return none _ => true
  | _ => false
def okSPass (s : Stmt) : Bool := match s with
  | .Pass _ => true
  | .Expr (.Constant (.str _) _ _) _ => true
  | _ => false
def okSBrk (s : Stmt) : Bool := match s with
  | .Break _ => true
  | _ => false
def okSCont (s : Stmt) : Bool := match s with
  | .Continue _ => true
  | _ => false
def okSR0 (sc : Scope) (cm : Bool) (c : Str) (s : Stmt) : Bool := match s with
  | .Raise (some (.Call (.Name x _) [.Constant (.str _) _ _] [] _)) none _ => cm && gnB sc c x
  | _ => false
def okSR1 (N : List Str) (sc : Scope) (cm : Bool) (c : Str) (a : IE) (s : Stmt) : Bool := match s with
  | .Raise (some (.Call (.Name x _) [e] [] _)) none _ => cm && gnB sc c x && !isB a && notStar e && okE N true a sc e
  | _ => false
def okTy (sc : Scope) (cl : Str) (ty : Option Expr) : Bool := match ty with
  | some (.Name x _) => gnB sc cl x
  | _ => false
mutual
def okS (N : List Str) (sc : Scope) (cm : Bool) : IS → Stmt → Bool
  | .asg p a, s => okSAsg N sc cm p a s
  | .own i a, s => okSOwn N sc cm (.n i) a s
  | .par i j a b, s => okSPar N sc cm i j a b s
  | .par3 i j k a b d, s => okSPar3 N sc cm i j k a b d s
  | .aug i op a, s => okSAug N sc cm i op a s
  | .app i a, s => okSM1 "append" N sc cm i a s
  | .ext i a, s => okSM1 "extend" N sc cm i a s
  | .seti i k a, s => okSSeti N sc cm i k a s
  | .setf i _ f a, s => okSSetf N sc cm i f a s
  | .pop0 t j, s => okSPop0 N sc cm t j s
  | .popI t j k, s => okSPopI N sc cm t j k s
  | .pop0d j, s => okSPop0d N sc j s
  | .popId j k, s => okSM1 "pop" N sc cm j k s
  | .drop a, s => okSDrop N sc cm a s
  | .ret a, s => okSRet N sc cm a s
  | .retN, s => okSRetN s
  | .pass, s => okSPass s
  | .brk, s => okSBrk s
  | .cont, s => okSCont s
  | .ife q a b, s => match s with
    | .If z x y _ => okQ N cm q sc z && (okSs N sc cm a x && okSs N sc cm b y)
    | _ => false
  | .for_ p it b, s => match s with
    | .For tg iter body els _ => els.isEmpty && cm && notSet iter && okP N sc.names p tg && (okI N true it sc tg iter && okSs N sc true b body)
    | _ => false
  | .while_ q b, s => match s with
    | .While z body els _ => els.isEmpty && (okQ N cm q sc z && okSs N sc cm b body)
    | _ => false
  | .try_ _ b h, s => match s with
    | .Try body hs els fin _ => els.isEmpty && fin.isEmpty && !hs.isEmpty && cm && (okSs N sc true b body && okHs N sc h hs)
    | _ => false
  | .raise0 c, s => okSR0 sc cm c s
  | .raise1 c _ a, s => okSR1 N sc cm c a s
  | .dead, _ => true
  | .cal n _ ps l, s => okSCal N sc cm n ps l s
  | .calO n _ i j l, s => okSCalO N sc cm n i j l s
  | .frz _, _ => false
def okSs (N : List Str) (sc : Scope) (cm : Bool) : ISs → List Stmt → Bool
  | .nil, ss => ss.isEmpty
  | .cons a r, ss => bif isFrz a then okSs N sc cm r ss else match ss with
    | s :: ss => okS N sc cm a s && okSs N sc cm r ss
    | [] => false
def okHs (N : List Str) (sc : Scope) : IHs → List ExceptHandler → Bool
  | .nil, hs => hs.isEmpty
  | .cons cl _ i b r, hs => match hs with
    | .ExceptHandler ty n bb _ :: hs => okTy sc cl ty && nmB N sc n i && !bb.isEmpty && (okSs N sc false b bb && okHs N sc r hs)
    | [] => false
end
mutual
def reqS (G : Glob) (lv : Nat) : IS → Prop
  | .asg _ a => reqE G lv a
  | .own _ a => reqE G lv a
  | .par _ _ a b => reqE G lv a ∧ reqE G lv b
  | .par3 _ _ _ a b d => reqE G lv a ∧ reqE G lv b ∧ reqE G lv d
  | .aug _ _ a => reqE G lv a
  | .app _ a => reqE G lv a
  | .ext _ a => reqE G lv a
  | .seti _ k a => reqE G lv k ∧ reqE G lv a
  | .setf _ c f a => FldOk G c f ∧ reqE G lv a
  | .popI _ _ k => reqE G lv k
  | .popId _ k => reqE G lv k
  | .drop a => reqE G lv a
  | .ret a => reqE G lv a
  | .ife q a b => reqQ G lv q ∧ reqSs G lv a ∧ reqSs G lv b
  | .for_ _ it b => reqI G lv it ∧ reqSs G lv b
  | .while_ q b => reqQ G lv q ∧ reqSs G lv b
  | .try_ ks b h => (∃ vs, HdsAll G ks vs h) ∧ reqSs G lv b ∧ reqHs G lv h
  | .raise0 c => R0Ok G c
  | .raise1 c f a => R1Ok G lv c f ∧ reqE G lv a
  | .cal n F ps l => CallMOk G lv n (lenEs l) (ps.map (·.1)) F ∧ reqEs G lv l
  | .calO n F _ _ l => CallOOk G lv n (lenEs l) F ∧ reqEs G lv l
  | _ => True
def reqSs (G : Glob) (lv : Nat) : ISs → Prop
  | .nil => True
  | .cons a r => reqS G lv a ∧ reqSs G lv r
def reqHs (G : Glob) (lv : Nat) : IHs → Prop
  | .nil => True
  | .cons _ _ _ b r => reqSs G lv b ∧ reqHs G lv r
end
/-- the context of statements -/
structure CxtS (F : Fx) (W : WX) (X : Cx) (N : List Str) (sc : Scope) (cm : Bool) (lv : Nat) : Prop where
  c : Cxt F W X N sc sc.names cm lv
  stk : X.stack = X.env :: X.outer
  frm : X.env.frame = some X.env.locals
  fun_ : sc.kind = .function
section
variable {X : Cx} {F : Fx} {W : WX} {N : List Str} {sc : Scope} {cm : Bool} {lv fu : Nat}
theorem CxtS.noxa (c : CxtS F W X N sc true lv) : F.xa = none := by
  cases h : F.xa with
  | none => rfl
  | some q =>
    obtain ⟨a, cls, dx⟩ := q
    obtain ⟨X0, oe, pn, e, _⟩ := c.c.xs a cls dx h
    have := c.c.calm rfl
    rw [e] at this
    cases this
theorem CxtS.tr (c : CxtS F W X N sc true lv) {W' : WX} {pn : List (Addr × Obj)} {xe : Value → Shared → Prop} (tk : Takes (X.tr pn xe) W') (po : PassesOwn (model X.prog X.w) X.A X.env xe) : CxtS F W' (X.tr pn xe) N sc true lv where
  c := ⟨c.c.hN, c.c.nd, c.c.hs, fun _ => c.c.calm rfl, fun _ => c.c.room rfl, c.c.un, tk, po, c.c.stl, c.c.stc, c.c.bi, fun a cls dx h => by rw [c.noxa] at h; cases h⟩
  stk := c.stk
  frm := c.frm
  fun_ := c.fun_
theorem CxtS.suite (c : CxtS F W X N sc true lv) {a : Addr} {cls : Value} {d : Option Addr} {oe : Obj} {pn : List (Addr × Obj)} (hz : Zc cls d oe) (hd : ∃ vs, oe.data = .fields vs) : CxtS (F.at_ (some (a, cls, d))) WF (X.suite a ((a, oe) :: pn)) N sc false lv where
  c := ⟨c.c.hN, c.c.nd, c.c.hs, fun h => by (cases h), fun h => by (cases h), c.c.un, takes0, PassesOwn.never, c.c.stl, c.c.stc, c.c.bi, fun a' cls' dx' h => by
    cases h
    exact ⟨X, oe, pn, rfl, hz, hd⟩⟩
  stk := c.stk
  frm := c.frm
  fun_ := c.fun_
theorem okNm_ok (c : Cxt F W X N sc sc.names cm lv) {a : IE} {p : Pat} {tg e : Expr} {pos : Pos} (h : okNm N sc cm a p tg e = true) (r : reqE (gl X) lv a) : PS X (.Assign [tg] e pos) (rAsg (gl X) F W a p) := by
  simp only [okNm, Bool.and_eq_true] at h
  obtain ⟨⟨h1, h2⟩, h3⟩ := h
  cases p with
  | n i =>
    cases tg with
    | Name y py =>
      simp only [Bool.and_eq_true, decide_eq_true_eq] at h3
      exact (ps_asg (okE_ok c a e h1 r) (pg_of c h3.1 h3.2) (sole (swaps_no h2)) swapped_name rfl).weak fun D σ H q => q
    | _ => exact (Bool.false_ne_true h3).elim
  | t is => exact (Bool.false_ne_true h3).elim
theorem asg_any (c : Cxt F W X N sc sc.names cm lv) (hk : sc.kind = .function) {a : IE} {p : Pat} {tg e : Expr} {pos : Pos} (h : ((cm && okAsg N sc a p tg e) || okNm N sc cm a p tg e) = true) (r : reqE (gl X) lv a) : PS X (.Assign [tg] e pos) (rAsg (gl X) F W a p) := by
  rw [Bool.or_eq_true, Bool.and_eq_true] at h
  rcases h with ⟨rfl, h⟩ | h
  · exact asg_ok c hk h r
  · exact okNm_ok c h r
theorem sS_asg' {a : IE} {p : Pat} {s : Stmt} (hb : isB a = false) (h : PS X s (rAsg (gl X) F W a p)) : PS X s (tS (gl X) F W fu (.asg p a)) := h.weak fun D σ H h => by
  obtain ⟨P, st, hs, h⟩ := h
  simp only [evS] at h
  refine FE_bind hb hs h fun d v P1 H1 e g r f => ?_
  obtain ⟨st', e1, f⟩ := f.nxR
  exact bindP_ok (hs.grow g) e1 r fun σ' hs' _ => f.here hs'
theorem sS_own' {a : IE} {i : Nat} {s : Stmt} (hb : isBr a = false) (h : PS X s (rAsg (gl X) F W a (.n i))) : PS X s (tS (gl X) F W fu (.own i a)) := h.weak fun D σ H h => by
  obtain ⟨P, st, hs, h⟩ := h
  simp only [evS] at h
  refine ⟨P, st, hs, F_bind hs h fun d P1 H1 e g f v r => ?_⟩
  split at f
  · rename_i hf
    obtain ⟨st', e1, f⟩ := f.nxR
    unfold ResE at r
    rw [if_neg (by rw [hb]; exact Bool.false_ne_true), if_pos hf] at r
    exact (f.move (g.toS hs.exB)).here (setv_own (hs.grow g) hs e1 r)
  · exact f.elim
end
section
variable {N : List Str} {sc : Scope} {lv fu : Nat}
theorem nmB_ok {F : Fx} {W : WX} {X : Cx} {cm : Bool} (c : CxtS F W X N sc cm lv) {n : Option Str} {i : Option Nat} (h : nmB N sc n i = true) : NmOk X n i := by
  cases i with
  | none => cases n with
    | none => rfl
    | some x => cases h
  | some i => cases n with
    | none => cases h
    | some x =>
      simp only [nmB, Bool.and_eq_true, decide_eq_true_eq] at h
      exact ⟨x, rfl, by rw [c.c.hN]; exact h.1, by show X.env.scope.names.lookup x = some .local; rw [c.c.hs]; exact isLoc_of h.2⟩
theorem okSAsg_ok {X : Cx} {F : Fx} {W : WX} {cm : Bool} (c : CxtS F W X N sc cm lv) {p : Pat} {a : IE} {s : Stmt} (h : okSAsg N sc cm p a s = true) (r : reqE (gl X) lv a) : PS X s (tS (gl X) F W fu (.asg p a)) := by
  unfold okSAsg at h
  split at h
  · simp only [Bool.and_eq_true, Bool.not_eq_true'] at h
    exact sS_asg' h.1 (asg_any c.c c.fun_ h.2 r)
  · cases h
theorem okSOwn_ok {X : Cx} {F : Fx} {W : WX} {cm : Bool} (c : CxtS F W X N sc cm lv) {i : Nat} {a : IE} {s : Stmt} (h : okSOwn N sc cm (.n i) a s = true) (r : reqE (gl X) lv a) : PS X s (tS (gl X) F W fu (.own i a)) := by
  unfold okSOwn at h
  split at h
  · simp only [Bool.and_eq_true, Bool.not_eq_true'] at h
    exact sS_own' h.1 (asg_any c.c c.fun_ h.2 r)
  · cases h
theorem okSPar_ok {X : Cx} {F : Fx} {W : WX} {cm : Bool} (c : CxtS F W X N sc cm lv) {i j : Nat} {a b : IE} {s : Stmt} (h : okSPar N sc cm i j a b s = true) (r : reqE (gl X) lv a ∧ reqE (gl X) lv b) : PS X s (tS (gl X) F W fu (.par i j a b)) := by
  unfold okSPar at h
  split at h
  · cases cm with
    | false => cases h
    | true =>
      simp only [Bool.and_eq_true, decide_eq_true_eq] at h
      obtain ⟨⟨⟨⟨⟨_, h1⟩, h2⟩, h3⟩, h4⟩, h5⟩ := h
      exact sS_par c.c c.fun_ h1 h2 h3 h4 (okEs_ok c.c _ _ h5 ⟨r.1, r.2, trivial⟩)
  · cases h
theorem okSPar3_ok {X : Cx} {F : Fx} {W : WX} {cm : Bool} (c : CxtS F W X N sc cm lv) {i j k : Nat} {a b d : IE} {s : Stmt} (h : okSPar3 N sc cm i j k a b d s = true) (r : reqE (gl X) lv a ∧ reqE (gl X) lv b ∧ reqE (gl X) lv d) : PS X s (tS (gl X) F W fu (.par3 i j k a b d)) := by
  unfold okSPar3 at h
  split at h
  · cases cm with
    | false => cases h
    | true =>
      simp only [Bool.and_eq_true, decide_eq_true_eq] at h
      obtain ⟨⟨⟨⟨⟨⟨⟨⟨_, h1⟩, h2⟩, h3⟩, h4⟩, h5⟩, h6⟩, h7⟩, h8⟩ := h
      exact sS_par3 c.c c.fun_ h1 h2 h3 h4 h5 h6 h7 (okEs_ok c.c _ _ h8 ⟨r.1, r.2.1, r.2.2, trivial⟩)
  · cases h
theorem okSAug_ok {X : Cx} {F : Fx} {W : WX} {cm : Bool} (c : CxtS F W X N sc cm lv) {i : Nat} {op : BOp} {a : IE} {s : Stmt} (h : okSAug N sc cm i op a s = true) (r : reqE (gl X) lv a) : PS X s (tS (gl X) F W fu (.aug i op a)) := by
  unfold okSAug at h
  split at h
  · simp only [Bool.and_eq_true, decide_eq_true_eq, Bool.not_eq_true'] at h
    obtain ⟨⟨⟨⟨h1, h2⟩, h3⟩, h4⟩, h5⟩ := h
    exact sS_aug c.c h1 h2 h3 (augB_ok h4) (okE_ok c.c a _ h5 r)
  · cases h
theorem okS_append {X : Cx} {F : Fx} {W : WX} {cm : Bool} (c : CxtS F W X N sc cm lv) {i : Nat} {a : IE} {s : Stmt} (h : okSM1 "append" N sc cm i a s = true) (r : reqE (gl X) lv a) : PS X s (tS (gl X) F W fu (.app i a)) := by
  unfold okSM1 at h
  split at h
  · simp only [Bool.and_eq_true, decide_eq_true_eq, Bool.not_eq_true'] at h
    obtain ⟨⟨⟨⟨⟨rfl, h1⟩, h2⟩, h3⟩, h4⟩, h5⟩ := h
    exact sS_app c.c h1 h2 h3 h4 (okE_ok c.c a _ h5 r)
  · cases h
theorem okS_extend {X : Cx} {F : Fx} {W : WX} {cm : Bool} (c : CxtS F W X N sc cm lv) {i : Nat} {a : IE} {s : Stmt} (h : okSM1 "extend" N sc cm i a s = true) (r : reqE (gl X) lv a) : PS X s (tS (gl X) F W fu (.ext i a)) := by
  unfold okSM1 at h
  split at h
  · simp only [Bool.and_eq_true, decide_eq_true_eq, Bool.not_eq_true'] at h
    obtain ⟨⟨⟨⟨⟨rfl, h1⟩, h2⟩, h3⟩, h4⟩, h5⟩ := h
    exact sS_ext c.c h1 h2 h3 h4 (okE_ok c.c a _ h5 r)
  · cases h
theorem okS_pop {X : Cx} {F : Fx} {W : WX} {cm : Bool} (c : CxtS F W X N sc cm lv) {i : Nat} {a : IE} {s : Stmt} (h : okSM1 "pop" N sc cm i a s = true) (r : reqE (gl X) lv a) : PS X s (tS (gl X) F W fu (.popId i a)) := by
  unfold okSM1 at h
  split at h
  · simp only [Bool.and_eq_true, decide_eq_true_eq, Bool.not_eq_true'] at h
    obtain ⟨⟨⟨⟨⟨rfl, h1⟩, h2⟩, h3⟩, h4⟩, h5⟩ := h
    exact sS_popId c.c h1 h2 h3 h4 (okE_ok c.c a _ h5 r)
  · cases h
theorem okSSeti_ok {X : Cx} {F : Fx} {W : WX} {cm : Bool} (c : CxtS F W X N sc cm lv) {i : Nat} {k a : IE} {s : Stmt} (h : okSSeti N sc cm i k a s = true) (r : reqE (gl X) lv k ∧ reqE (gl X) lv a) : PS X s (tS (gl X) F W fu (.seti i k a)) := by
  unfold okSSeti at h
  split at h
  · simp only [Bool.and_eq_true, Bool.not_eq_true'] at h
    obtain ⟨⟨⟨⟨⟨h1, h2⟩, h3⟩, h4⟩, h5⟩, h6⟩ := h
    exact sS_seti c.c h1 h2 h3 h4 (okE_ok c.c k _ h5 r.1) (okE_ok c.c a _ h6 r.2)
  · cases h
theorem okSSetf_ok {X : Cx} {F : Fx} {W : WX} {cm : Bool} (c : CxtS F W X N sc cm lv) {i : Nat} {cl f : Str} {a : IE} {s : Stmt} (h : okSSetf N sc cm i f a s = true) (r : FldOk (gl X) cl f ∧ reqE (gl X) lv a) : PS X s (tS (gl X) F W fu (.setf i cl f a)) := by
  unfold okSSetf at h
  split at h
  · simp only [Bool.and_eq_true, decide_eq_true_eq, Bool.not_eq_true'] at h
    obtain ⟨⟨⟨rfl, h1⟩, h2⟩, h3⟩ := h
    exact sS_setf c.c h1 h2 r.1 (okE_ok c.c a _ h3 r.2)
  · cases h
theorem okSPop0_ok {X : Cx} {F : Fx} {W : WX} {cm : Bool} (c : CxtS F W X N sc cm lv) {t j : Nat} {s : Stmt} (h : okSPop0 N sc cm t j s = true) : PS X s (tS (gl X) F W fu (.pop0 t j)) := by
  unfold okSPop0 at h
  split at h
  · cases cm with
    | false => cases h
    | true =>
      simp only [Bool.and_eq_true, decide_eq_true_eq] at h
      obtain ⟨⟨⟨⟨⟨_, rfl⟩, h1⟩, h2⟩, h3⟩, h4⟩ := h
      exact sS_pop0 c.c h1 h2 h3 h4
  · cases h
theorem okSPopI_ok {X : Cx} {F : Fx} {W : WX} {cm : Bool} (c : CxtS F W X N sc cm lv) {t j : Nat} {k : IE} {s : Stmt} (h : okSPopI N sc cm t j k s = true) (r : reqE (gl X) lv k) : PS X s (tS (gl X) F W fu (.popI t j k)) := by
  unfold okSPopI at h
  split at h
  · cases cm with
    | false => cases h
    | true =>
      simp only [Bool.and_eq_true, decide_eq_true_eq, Bool.not_eq_true'] at h
      obtain ⟨⟨⟨⟨⟨⟨⟨⟨_, rfl⟩, h1⟩, h2⟩, h3⟩, h4⟩, h5⟩, h6⟩, h7⟩ := h
      exact sS_popI c.c h1 h2 h3 h4 (okE_ok c.c k _ h5 r) h6 h7
  · cases h
theorem okSPop0d_ok {X : Cx} {F : Fx} {W : WX} {cm : Bool} (c : CxtS F W X N sc cm lv) {j : Nat} {s : Stmt} (h : okSPop0d N sc j s = true) : PS X s (tS (gl X) F W fu (.pop0d j)) := by
  unfold okSPop0d at h
  split at h
  · simp only [Bool.and_eq_true, decide_eq_true_eq] at h
    obtain ⟨⟨rfl, h1⟩, h2⟩ := h
    exact sS_pop0d c.c h1 h2
  · cases h
theorem okSDrop_ok {X : Cx} {F : Fx} {W : WX} {cm : Bool} (c : CxtS F W X N sc cm lv) {a : IE} {s : Stmt} (h : okSDrop N sc cm a s = true) (r : reqE (gl X) lv a) : PS X s (tS (gl X) F W fu (.drop a)) := by
  unfold okSDrop at h
  split at h
  · simp only [Bool.and_eq_true] at h
    exact sS_drop h.1 (okE_ok c.c a _ h.2 r)
  · cases h
theorem okSRet_ok {X : Cx} {F : Fx} {W : WX} {cm : Bool} (c : CxtS F W X N sc cm lv) {a : IE} {s : Stmt} (h : okSRet N sc cm a s = true) (r : reqE (gl X) lv a) : PS X s (tS (gl X) F W fu (.ret a)) := by
  unfold okSRet at h
  split at h
  · simp only [Bool.and_eq_true, Bool.not_eq_true'] at h
    exact sS_ret h.1 (okE_ok c.c a _ h.2 r)
  · cases h
theorem okSRetN_ok {X : Cx} {F : Fx} {W : WX} {cm : Bool} (c : CxtS F W X N sc cm lv)  {s : Stmt} (h : okSRetN s = true) : PS X s (tS (gl X) F W fu (.retN)) := by
  unfold okSRetN at h
  split at h
  · exact sS_retN
  · cases h
theorem okSPass_ok {X : Cx} {F : Fx} {W : WX} {cm : Bool} (c : CxtS F W X N sc cm lv)  {s : Stmt} (h : okSPass s = true) : PS X s (tS (gl X) F W fu (.pass)) := by
  unfold okSPass at h
  split at h
  · exact sS_pass
  · exact sS_doc ps_doc
  · cases h
theorem okSBrk_ok {X : Cx} {F : Fx} {W : WX} {cm : Bool} (c : CxtS F W X N sc cm lv)  {s : Stmt} (h : okSBrk s = true) : PS X s (tS (gl X) F W fu (.brk)) := by
  unfold okSBrk at h
  split at h
  · exact sS_brk
  · cases h
theorem okSCont_ok {X : Cx} {F : Fx} {W : WX} {cm : Bool} (c : CxtS F W X N sc cm lv)  {s : Stmt} (h : okSCont s = true) : PS X s (tS (gl X) F W fu (.cont)) := by
  unfold okSCont at h
  split at h
  · exact sS_cont
  · cases h
theorem okSR0_ok {X : Cx} {F : Fx} {W : WX} {cm : Bool} (c : CxtS F W X N sc cm lv) {x : Str} {s : Stmt} (h : okSR0 sc cm x s = true) (r : R0Ok (gl X) x) : PS X s (tS (gl X) F W fu (.raise0 x)) := by
  unfold okSR0 at h
  split at h
  · cases cm with
    | false => cases h
    | true =>
      rw [Bool.and_eq_true] at h
      obtain ⟨rfl, h3, h4⟩ := gnB_ok h.2
      exact sS_raise0 c.c r h3 h4
  · cases h
theorem okSR1_ok {X : Cx} {F : Fx} {W : WX} {cm : Bool} (c : CxtS F W X N sc cm lv) {x f : Str} {a : IE} {s : Stmt} (h : okSR1 N sc cm x a s = true) (r : R1Ok (gl X) lv x f ∧ reqE (gl X) lv a) : PS X s (tS (gl X) F W fu (.raise1 x f a)) := by
  unfold okSR1 at h
  split at h
  · cases cm with
    | false => cases h
    | true =>
      simp only [Bool.and_eq_true, Bool.not_eq_true'] at h
      obtain ⟨⟨⟨⟨_, h1⟩, h2⟩, h3⟩, h4⟩ := h
      obtain ⟨rfl, h5, h6⟩ := gnB_ok h1
      exact sS_raise1 c.c r.1 h2 h5 h6 h3 (okE_ok c.c a _ h4 r.2)
  · cases h
mutual
theorem okS_ok {X : Cx} {F : Fx} {W : WX} {cm : Bool} (c : CxtS F W X N sc cm lv) : ∀ (a : IS) (s : Stmt), okS N sc cm a s = true → reqS (gl X) lv a → PS X s (tS (gl X) F W fu a)
  | .asg p a, s, h, r => okSAsg_ok c h r
  | .own i a, s, h, r => okSOwn_ok c h r
  | .par i j a b, s, h, r => okSPar_ok c h r
  | .par3 i j k a b d, s, h, r => okSPar3_ok c h r
  | .aug i op a, s, h, r => okSAug_ok c h r
  | .app i a, s, h, r => okS_append c h r
  | .ext i a, s, h, r => okS_extend c h r
  | .seti i k a, s, h, r => okSSeti_ok c h r
  | .setf i cl f a, s, h, r => okSSetf_ok c h r
  | .pop0 t j, s, h, r => okSPop0_ok c h
  | .popI t j k, s, h, r => okSPopI_ok c h r
  | .pop0d j, s, h, r => okSPop0d_ok c h
  | .popId j k, s, h, r => okS_pop c h r
  | .drop a, s, h, r => okSDrop_ok c h r
  | .ret a, s, h, r => okSRet_ok c h r
  | .retN, s, h, r => okSRetN_ok c h
  | .pass, s, h, r => okSPass_ok c h
  | .brk, s, h, r => okSBrk_ok c h
  | .cont, s, h, r => okSCont_ok c h
  | .ife q a b, s, h, r => by
    cases s with
    | If z x y p =>
      have h : (okQ N cm q sc z && (okSs N sc cm a x && okSs N sc cm b y)) = true := h
      rw [Bool.and_eq_true, Bool.and_eq_true] at h
      exact sS_ife (okQ_ok c.c q z h.1 r.1) (okSs_ok c a x h.2.1 r.2.1) (okSs_ok c b y h.2.2 r.2.2)
    | _ => exact (Bool.false_ne_true h).elim
  | .for_ p it b, s, h, r => by
    cases s with
    | For tg iter body els p2 =>
      have h : (els.isEmpty && cm && notSet iter && okP N sc.names p tg && (okI N true it sc tg iter && okSs N sc true b body)) = true := h
      cases cm with
      | false => rw [Bool.and_false] at h; exact (Bool.false_ne_true h).elim
      | true =>
        cases els with
        | cons _ _ => exact (Bool.false_ne_true h).elim
        | nil =>
          simp only [Bool.and_eq_true] at h
          obtain ⟨⟨⟨_, h1⟩, h2⟩, h3, h4⟩ := h
          exact sS_for c.c h1 h2 (okI_ok c.c it tg iter h3 r.1) (okSs_ok c b body h4 r.2)
    | _ => exact (Bool.false_ne_true h).elim
  | .while_ q b, s, h, r => by
    cases s with
    | While z body els p2 =>
      have h : (els.isEmpty && (okQ N cm q sc z && okSs N sc cm b body)) = true := h
      cases els with
      | cons _ _ => exact (Bool.false_ne_true h).elim
      | nil =>
        rw [Bool.and_eq_true, Bool.and_eq_true] at h
        exact sS_while c.c (okQ_ok c.c q z h.2.1 r.1) (okSs_ok c b body h.2.2 r.2)
    | _ => exact (Bool.false_ne_true h).elim
  | .try_ ks b h', s, h, r => by
    cases s with
    | Try body hs els fin p2 =>
      have h : (els.isEmpty && fin.isEmpty && !hs.isEmpty && cm && (okSs N sc true b body && okHs N sc h' hs)) = true := h
      cases cm with
      | false => rw [Bool.and_false] at h; exact (Bool.false_ne_true h).elim
      | true =>
        cases els with
        | cons _ _ => exact (Bool.false_ne_true h).elim
        | nil =>
          cases fin with
          | cons _ _ => exact (Bool.false_ne_true h).elim
          | nil =>
            cases hs with
            | nil => exact (Bool.false_ne_true h).elim
            | cons h₀ hs =>
              simp only [Bool.and_eq_true] at h
              obtain ⟨_, h1, h2⟩ := h
              obtain ⟨⟨vs, hv⟩, r2, r3⟩ := r
              exact sS_try c.stk c.frm c.c c.noxa hv (fun W' pn xe tk po => okSs_ok (c.tr tk po) b body h1 r2) (okHs_ok c h' (h₀ :: hs) vs ks h2 hv r3)
    | _ => exact (Bool.false_ne_true h).elim
  | .raise0 cl, s, h, r => okSR0_ok c h r
  | .raise1 cl f a, s, h, r => okSR1_ok c h r
  | .dead, s, h, r => sS_dead
  | .cal n Fn ps l, s, h, r => okSCal_ok c.c h r.1 r.2
  | .calO n Fn i j l, s, h, r => okSCalO_ok c.c h r.1 r.2
  | .frz i, s, h, r => (Bool.false_ne_true h).elim
theorem okSs_ok {X : Cx} {F : Fx} {W : WX} {cm : Bool} (c : CxtS F W X N sc cm lv) : ∀ (a : ISs) (ss : List Stmt), okSs N sc cm a ss = true → reqSs (gl X) lv a → PSs X ss (tSs (gl X) F W fu a)
  | .nil, ss, h, r => by
    cases ss with
    | nil => exact sSs_nil
    | cons _ _ => exact (Bool.false_ne_true h).elim
  | .cons a t, ss, h, r => by
    cases hf : isFrz a with
    | true =>
      cases a with
      | frz i => exact sSs_frz (okSs_ok c t ss h r.2)
      | _ => cases hf
    | false =>
      cases ss with
      | nil =>
        have h : (bif isFrz a then okSs N sc cm t [] else false) = true := h
        rw [hf] at h
        exact (Bool.false_ne_true h).elim
      | cons s ss =>
        have h : (bif isFrz a then okSs N sc cm t (s :: ss) else (okS N sc cm a s && okSs N sc cm t ss)) = true := h
        rw [hf] at h
        have h : (okS N sc cm a s && okSs N sc cm t ss) = true := h
        rw [Bool.and_eq_true] at h
        exact sSs_cons (okS_ok c a s h.1 r.1) (okSs_ok c t ss h.2 r.2)
theorem okHs_ok {X : Cx} {F : Fx} {W : WX} (c : CxtS F W X N sc true lv) : ∀ (h : IHs) (hs : List ExceptHandler) (vs : List Value) (ks : List Str), okHs N sc h hs = true → HdsAll (gl X) ks vs h → reqHs (gl X) lv h → HdA X hs (clsOf (gl X) F fu vs h)
  | .nil, hs, vs, ks, h, hv, r => by
    cases hs with
    | nil =>
      simp only [clsOf]
      exact .nil
    | cons _ _ => exact (Bool.false_ne_true h).elim
  | .cons cl sub i b t, hs, vs, ks, h, hv, r => by
    cases hs with
    | nil => exact (Bool.false_ne_true h).elim
    | cons e hs =>
      obtain ⟨ty, n, bb, p2⟩ := e
      have h : (okTy sc cl ty && nmB N sc n i && !bb.isEmpty && (okSs N sc false b bb && okHs N sc t hs)) = true := h
      simp only [Bool.and_eq_true] at h
      obtain ⟨⟨⟨h1, h2⟩, hb⟩, h3, h4⟩ := h
      obtain ⟨v, us, rfl, k1, k2⟩ := hv
      unfold okTy at h1
      split at h1
      · obtain ⟨rfl, h5, h6⟩ := gnB_ok h1
        cases bb with
        | nil => cases hb
        | cons b₀ suite =>
          simp only [clsOf]
          exact .cons ⟨gl_of (by rw [c.c.hs]; exact h5), h6, k1.nm⟩ (nmB_ok c h2) (fun a oe cls d pn hz hd => okSs_ok (c.suite hz hd) b (b₀ :: suite) h3 r.1) (okHs_ok c t hs us ks h4 k2 r.2)
      · cases h1
end
end
end M
set_option Elab.async false
set_option linter.all false
set_option maxRecDepth 100000
set_option maxHeartbeats 4000000
/-! M, part W: defs. -/
namespace M
open PySem L2 PySem.Spec PyProof.Rows

/-! ### a def, evaluated -/
def st0 (mu : List Nat) : Nat → List D → ES
  | _, [] => []
  | i, d :: ds => (if i ∈ mu then Sl.par d else Sl.val d) :: st0 mu (i + 1) ds
def stF (n : Nat) (mu : List Nat) (ds : List D) : ES := st0 mu 0 ds ++ List.replicate (n - ds.length) .un
def parD : Sl → D
  | .par d => d
  | _ => .non
def isPar : Sl → Bool
  | .par _ => true
  | _ => false
def outM (mu : List Nat) (d : D) (st : ES) : R (D × List D) := if mu.all (fun i => match st[i]? with | some s => isPar s | none => false) = true then .ok (d, st.map parD) else .bad
def runM (fu n : Nat) (mu : List Nat) (body : ISs) (ds : List D) : R (D × List D) := match evSs fu body (stF n mu ds) with
  | .nx st => outM mu .non st
  | .rt d st => outM mu d st
  | .er c p _ => .err c p
  | _ => .bad
/-- a def that changes nothing -/
def runD (fu n : Nat) (body : ISs) (ds : List D) : R D := match evSs fu body (stF n [] ds) with
  | .nx _ => .ok .non
  | .rt d _ => .ok d
  | .er c p _ => .err c p
  | _ => .bad
theorem runD_fst (fu n : Nat) (body : ISs) (ds : List D) : runD fu n body ds = fstR (runM fu n [] body ds) := by
  unfold runD runM
  cases evSs fu body (stF n [] ds) <;> rfl
theorem st0_len (mu : List Nat) : ∀ (ds : List D) (i : Nat), (st0 mu i ds).length = ds.length
  | [], _ => rfl
  | d :: ds, i => by simp only [st0, List.length_cons, st0_len mu ds]
theorem st0_get (mu : List Nat) : ∀ {ds : List D} {i j : Nat} {s : Sl}, (st0 mu i ds)[j]? = some s → ∃ d, ds[j]? = some d ∧ s = if i + j ∈ mu then Sl.par d else Sl.val d
  | [], _, _, _, h => by simp [st0] at h
  | d :: ds, i, 0, s, h => by
    simp only [st0, List.getElem?_cons_zero, Option.some.injEq] at h
    exact ⟨d, rfl, by rw [Nat.add_zero]; exact h.symm⟩
  | d :: ds, i, j + 1, s, h => by
    simp only [st0, List.getElem?_cons_succ] at h
    obtain ⟨x, e1, e2⟩ := st0_get mu h
    exact ⟨x, by rw [List.getElem?_cons_succ]; exact e1, by rw [e2, show i + 1 + j = i + (j + 1) by omega]⟩
def addrOf : Option V → Option Addr
  | some (.ref a) => some a
  | _ => none
def fxOf (B : Hp) (mu : List Nat) (vs : List V) : Fx := ⟨B, fun i => if i ∈ mu then addrOf vs[i]? else none, none⟩
section
variable {G : Glob}
theorem start_at {N : List Str} {vs : List V} {i : Nat} {v : V} (h : vs[i]? = some v) : (start N vs)[i]? = some (some v) := by
  unfold L2.start
  rw [List.getElem?_append_left (by rw [List.length_map]; exact (List.getElem?_eq_some_iff.mp h).1), List.getElem?_map, h]
  rfl
theorem stOk_start {B P H : Hp} {N : List Str} {mu : List Nat} {ds : List D} {vs : List V} (hN : vs.length ≤ N.length) (s : Same P H) (sB : Same B H) (a : ArgsOk G mu B P H ds vs) : StOk G (fxOf B mu vs) P H (start N vs) (stF N.length mu ds) := by
  obtain ⟨hl, h1, h2⟩ := a
  have key : ∀ {i : Nat} {t : Sl}, (stF N.length mu ds)[i]? = some t → (∃ d v, ds[i]? = some d ∧ vs[i]? = some v ∧ t = if i ∈ mu then Sl.par d else Sl.val d) ∨ t = .un := by
    intro i t e
    unfold stF at e
    by_cases hi : i < ds.length
    · rw [List.getElem?_append_left (by rw [st0_len]; exact hi)] at e
      obtain ⟨d, e1, e2⟩ := st0_get mu e
      rw [Nat.zero_add] at e2
      exact .inl ⟨d, vs[i]'(by omega), e1, List.getElem?_eq_getElem _, e2⟩
    · rw [List.getElem?_append_right (by rw [st0_len]; omega), List.getElem?_replicate] at e
      split at e
      · cases e; exact .inr rfl
      · cases e
  refine ⟨?_, s, sB, fun i t o e1 e2 => ?_, fun i j t u b hij e1 e2 o1 o2 q1 q2 => ?_⟩
  · unfold L2.start stF
    rw [List.length_append, List.length_append, List.length_map, List.length_replicate, List.length_replicate, st0_len]
    omega
  · rcases key e1 with ⟨d, v, k1, k2, rfl⟩ | rfl
    · rw [start_at k2] at e2
      cases e2
      have := h1 i d v k1 k2
      by_cases hi : i ∈ mu
      · rw [if_pos hi] at this ⊢
        obtain ⟨b, rfl, hb, ho⟩ := this
        refine ⟨b, rfl, ?_, hb, ho⟩
        show (if i ∈ mu then addrOf vs[i]? else none) = some b
        rw [if_pos hi, k2]; rfl
      · rw [if_neg hi] at this ⊢
        exact ⟨v, rfl, this⟩
    · trivial
  · rcases key e1 with ⟨d, v, k1, k2, rfl⟩ | rfl
    · rcases key e2 with ⟨d', v', k3, k4, rfl⟩ | rfl
      · by_cases hi : i ∈ mu
        · by_cases hj : j ∈ mu
          · rw [start_at k2] at q1
            rw [start_at k4] at q2
            cases q1; cases q2
            exact h2 i j b hij hi hj k2 k4
          · rw [if_neg hj] at o2; cases o2
        · rw [if_neg hi] at o1; cases o1
      · cases o2
    · cases o1
theorem outM_ok {mu : List Nat} {d d' : D} {st : ES} {nd : List D} (h : outM mu d st = .ok (d', nd)) : d' = d ∧ nd = st.map parD ∧ ∀ i ∈ mu, ∃ x, st[i]? = some (.par x) := by
  unfold outM at h
  split at h
  · rename_i ha
    cases h
    refine ⟨rfl, rfl, fun i hi => ?_⟩
    have := List.all_eq_true.mp ha i hi
    split at this
    · rename_i s hs
      cases s with
      | par x => exact ⟨x, hs⟩
      | _ => cases this
    · cases this
  · cases h
/-- the promise of a def, by its body in the small language -/
theorem fn_sound {x qual : Str} {st : Stmt} {f : Addr} {fd : FuncData} {N ps : List Str} {lv fu : Nat} {mu : List Nat} {body : ISs} (Fn : Fun G.K x qual st f fd) (S : FnScope N ps (defScope st)) (bi : ∀ n ∈ biNames, G.mg n = none)
    (hs : okSs N (defScope st) true body (defBody st) = true) (hr : reqSs G lv body) : FnOk G.P G.w G.K G.mg G.base (L2.CX G.P G.w) (lv + 1) f fd ps (spM G ps.length mu (runM fu N.length mu body)) := by
  have hpl : ps.length ≤ N.length := by have := congrArg List.length S.pre; rw [List.length_take] at this; omega
  refine Fn.okX S (fun vs H Q E h => h.1) fun cdv A outer s H vs Q E hrm hsp => ?_
  obtain ⟨hn, B, P, ds, sP, sB, ha, hF⟩ := hsp
  have c : CxtS (fxOf B mu vs) (fun cls d _ H' => E cls d H') (cxOf (L2.CX G.P G.w) G.P G.w G.K G.mg G.base N qual (defScope st) f cdv A outer s H E) N (defScope st) true lv :=
    ⟨⟨rfl, S.nd, rfl, fun _ => rfl, fun _ => hrm, Nat.lt_of_le_of_lt (by show _ ≤ (A.deeper (envOfC qual (defScope st) s.heap.objs.size f cdv)).units + 16 * lv + 200; show (A.deeper _).units + 65 ≤ _; omega) hrm.un, takes_of rfl rfl rfl rfl, passes_of rfl, fun x h => h, fun x h => ⟨h, rfl⟩, bi, fun a cls dx h => by cases h⟩, rfl, rfl, S.kind⟩
  refine ⟨_, okSs_ok (fu := fu) c body (defBody st) hs hr, P, stF N.length mu ds, stOk_start (by omega) sP sB ha, ?_⟩
  have fin : ∀ {d : D} {st' : ES}, (match outM mu d st' with
      | .ok (d, nd) => ∀ v P' H', GrM B P P' H' → Rep G P' d v → (∀ (i : Nat) (a : Addr) (d' : D), i ∈ mu → vs[i]? = some (V.ref a) → nd[i]? = some d' → OwnAt G P' H' a d') → Q v H'
      | .err c p => ∀ P' H' cls dx, GrM B P P' H' → ExcAt G P' c p cls dx → E cls dx H'
      | .bad => False) → ∀ v σ' P' H', GrS (fxOf B mu vs) P P' → StOk G (fxOf B mu vs) P' H' σ' st' → Rep G P' d v → Q v H' := by
    intro d st' h v σ' P' H' g hs' r
    cases e : outM mu d st' with
    | ok y =>
      obtain ⟨d2, nd⟩ := y
      rw [e] at h
      obtain ⟨rfl, rfl, hp⟩ := outM_ok e
      refine h v P' H' ⟨g.pp, hs'.exB, hs'.ex, g.nw⟩ r fun i a d' hi hv hd => ?_
      obtain ⟨z, hz⟩ := hp i hi
      rw [List.getElem?_map, hz] at hd
      cases hd
      obtain ⟨ov, _, b, _, hb, _, ho⟩ := hs'.at_ hz
      have hb : (if i ∈ mu then addrOf vs[i]? else none) = some b := hb
      rw [if_pos hi, hv] at hb
      cases hb
      exact ho
    | err c p =>
      unfold outM at e
      split at e <;> cases e
    | bad => rw [e] at h; exact h.elim
  unfold runM at hF
  generalize evSs fu body (stF N.length mu ds) = rr at hF ⊢
  cases rr with
  | nx st' => exact fun σ' P' H' g hs' => fin (d := .non) (st' := st') hF .non σ' P' H' g hs' (by simp only [Rep])
  | rt d st' => exact fun v σ' P' H' g hs' r => fin (d := d) (st' := st') hF v σ' P' H' g hs' r
  | bk st' => exact hF.elim
  | ct st' => exact hF.elim
  | er c p st' => exact fun σ' P' H' cls dx g hs' e => hF P' H' cls dx ⟨g.pp, hs'.exB, hs'.ex, g.nw⟩ e
  | no => exact hF
theorem fn_soundD {x qual : Str} {st : Stmt} {f : Addr} {fd : FuncData} {N ps : List Str} {lv fu : Nat} {body : ISs} (Fn : Fun G.K x qual st f fd) (S : FnScope N ps (defScope st)) (bi : ∀ n ∈ biNames, G.mg n = none)
    (hs : okSs N (defScope st) true body (defBody st) = true) (hr : reqSs G lv body) : FnOk G.P G.w G.K G.mg G.base (L2.CX G.P G.w) (lv + 1) f fd ps (spD G ps.length (runD fu N.length body)) :=
  (fn_sound (fu := fu) (mu := []) Fn S bi hs hr).imp (spD_of_M (runD_fst fu N.length body))
end

/-! ### the syntactic side of a def, decided -/
def noFreeB (sc : Scope) : Bool := sc.names.all fun y => y.2 != .free
def scopeB (N ps : List Str) (sc : Scope) : Bool := (sc.kind == .function) && !sc.isCoroutine && !sc.isGenerator && decide N.Nodup && decide (N.take ps.length = ps) && ps.all (stoB sc.names) && noFreeB sc
theorem scopeB_ok {N ps : List Str} {sc : Scope} (h : scopeB N ps sc = true) : FnScope N ps sc := by
  simp only [scopeB, Bool.and_eq_true, Bool.not_eq_true', decide_eq_true_eq, List.all_eq_true] at h
  obtain ⟨⟨⟨⟨⟨⟨h1, h2⟩, h3⟩, h4⟩, h5⟩, h6⟩, h7⟩ := h
  refine ⟨?_, h2, h3, h4, h5, fun x hx => ?_, fun y hy => ?_⟩
  · revert h1; cases sc.kind <;> first | (intro _; rfl) | (intro h; cases h)
  · have := h6 x hx
    unfold stoB at this
    split at this
    · exact .inl ‹_›
    · exact .inr ‹_›
    · cases this
  · have := List.all_eq_true.mp h7 y hy
    intro e
    rw [e] at this
    cases this
/-- a def's text is the small language's -/
def okFn (N ps : List Str) (body : ISs) (st : Stmt) : Bool := scopeB N ps (defScope st) && okSs N (defScope st) true body (defBody st)
theorem fnD {G : Glob} {x qual : Str} {st : Stmt} {f : Addr} {fd : FuncData} {N ps : List Str} {lv : Nat} (fu n : Nat) {body : ISs} (Fn : Fun G.K x qual st f fd) (bi : ∀ n ∈ biNames, G.mg n = none) (hn : n = N.length)
    (ok : okFn N ps body st = true) (hr : reqSs G lv body) : FnOk G.P G.w G.K G.mg G.base (L2.CX G.P G.w) (lv + 1) f fd ps (spD G ps.length (runD fu n body)) := by
  rw [okFn, Bool.and_eq_true] at ok
  subst hn
  exact fn_soundD Fn (scopeB_ok ok.1) bi ok.2 hr
theorem fnM {G : Glob} {x qual : Str} {st : Stmt} {f : Addr} {fd : FuncData} {N ps : List Str} {lv : Nat} (fu n : Nat) (mu : List Nat) {body : ISs} (Fn : Fun G.K x qual st f fd) (bi : ∀ n ∈ biNames, G.mg n = none) (hn : n = N.length)
    (ok : okFn N ps body st = true) (hr : reqSs G lv body) : FnOk G.P G.w G.K G.mg G.base (L2.CX G.P G.w) (lv + 1) f fd ps (spM G ps.length mu (runM fu n mu body)) := by
  rw [okFn, Bool.and_eq_true] at ok
  subst hn
  exact fn_sound Fn (scopeB_ok ok.1) bi ok.2 hr

/-! ### clauses -/
theorem exm_of {K : PySem.W.Frag} {t : Value} {S : Addr} {b : Bool} (h1 : PySem.W.subIn K (.ref S) (.type "BaseException") = some true) (h2 : PySem.W.isClsIn K S = true) (h3 : PySem.W.typeIn K (.ref S) = some (.type "type")) (h4 : PySem.W.subIn K t (.ref S) = some b) : PySem.W.exmOne K t (.ref S) = some b := by
  have h2' : (PySem.W.clsIn K S).isSome = true := h2
  show (if (PySem.W.subIn K (.ref S) (.type "BaseException") == some true) = true then (if ((PySem.W.clsIn K S).isSome && PySem.W.typeIn K (.ref S) == some (.type "type")) = true then PySem.W.subIn K t (.ref S) else none) else none) = some b
  rw [if_pos (by rw [h1]; rfl), if_pos (by rw [h2', h3]; decide), h4]
theorem hds_nil {G : Glob} {ks : List Str} : ∃ vs, HdsAll G ks vs .nil := ⟨[], rfl⟩
theorem hds_cons {G : Glob} {ks : List Str} {cl : Str} {sub : List Str} {i : Option Nat} {b : ISs} {t : IHs} {v : Value} (h : HdOk G ks cl sub v) (r : ∃ vs, HdsAll G ks vs t) : ∃ vs, HdsAll G ks vs (.cons cl sub i b t) := by
  obtain ⟨vs, hv⟩ := r
  exact ⟨v :: vs, v, vs, rfl, h, hv⟩
/-! ### the law -/
def spLaw (K : PySem.W.Frag) : Sp := fun vs H Q _ => ∃ (a : Addr) (ns : List Int), vs = [V.ref a] ∧ SqL K H a (ns.map V.int) ∧ ns.length ≤ 63 ∧ ∀ v H', v = .bl true → Q v H'
theorem law_imp {G : Glob} {F : List D → R D} {k : Nat} {f : Addr} {fd : FuncData} {ps : List Str} (h : FnOk G.P G.w G.K G.mg G.base (L2.CX G.P G.w) k f fd ps (spD G 1 F)) (hF : ∀ ns : List Int, ns.length ≤ 63 → F [.scr (ns.map D.int)] = .ok (.bl true)) :
    FnOk G.P G.w G.K G.mg G.base (L2.CX G.P G.w) k f fd ps (spLaw G.K) := h.imp fun vs H Q E hq => by
  obtain ⟨a, ns, rfl, hS, hl, hQ⟩ := hq
  refine ⟨rfl, H, [.scr (ns.map D.int)], Same.refl _, Reps.cons (by simp only [Rep]; exact ⟨a, _, rfl, hS, ints_reps G H ns⟩) Reps.nil, ?_⟩
  rw [hF ns hl]
  intro P' H' _ v r
  simp only [Rep] at r
  exact hQ v H' r
end M
set_option Elab.async false
set_option linter.all false
set_option maxRecDepth 100000
set_option maxHeartbeats 4000000
/-! M: defs that hand out two fresh things of their own. -/
namespace M
open PySem L2 PySem.Spec PyProof.Rows
def okRetO (N : List Str) (sc : Scope) (i j : Nat) (s : Stmt) : Bool := match s with
  | .Return (some (.Tuple [.Name x _, .Name y _] _ _)) _ => nameB N sc i x && nameB N sc j y
  | _ => false
def okSsO (N : List Str) (sc : Scope) (i j : Nat) : ISs → List Stmt → Bool
  | .nil, [s] => okRetO N sc i j s
  | .cons a r, s :: ss => okS N sc true a s && okSsO N sc i j r ss
  | _, _ => false
def PostO (G : Glob) (F : Fx) (W : WX) (D : Ends) (P : Hp) (i j : Nat) : Fl → Prop
  | .nx st => ∃ x y, st[i]? = some (.own x) ∧ st[j]? = some (.own y) ∧ ∀ v σ' P' H', GrS F P P' → StOk G F P' H' σ' st → OutO G F.B P' H' x y v → D.rt v H'
  | .er c p st => ∀ σ' P' H' cls dx, GrS F P P' → StOk G F P' H' σ' st → ExcAt G P' c p cls dx → W cls dx σ' H'
  | _ => False
def tSsO (G : Glob) (F : Fx) (W : WX) (fu i j : Nat) (s : ISs) : TS := fun D σ H => ∃ P st, StOk G F P H σ st ∧ PostO G F W D P i j (evSs fu s st)
theorem PostO.move {G : Glob} {F : Fx} {W : WX} {D : Ends} {P P1 : Hp} {i j : Nat} {r : Fl} (h : PostO G F W D P i j r) (g : GrS F P P1) : PostO G F W D P1 i j r := by
  cases r with
  | nx st =>
    obtain ⟨x, y, e1, e2, h⟩ := h
    exact ⟨x, y, e1, e2, fun v σ' P' H' g' => h v σ' P' H' (g.trans g')⟩
  | er c p st => exact fun σ' P' H' cls dx g' => h σ' P' H' cls dx (g.trans g')
  | _ => exact h.elim
section
variable {X : Cx} {F : Fx} {W : WX} {N : List Str} {sc : Scope} {lv fu i j : Nat}
theorem okRetO_ok (c : CxtS F W X N sc true lv) (hij : i ≠ j) {s : Stmt} (h : okRetO N sc i j s = true) : PSs X [s] (tSsO (gl X) F W fu i j .nil) := by
  unfold okRetO at h
  split at h
  · rename_i x px y py k p pos
    rw [Bool.and_eq_true] at h
    refine (pss_cons (ps_ret (pe_tup (pa_cons (pv c.c h.1) (pa_cons (pv c.c h.2) pa_nil)))) pss_nil).weak fun D σ H h => ?_
    obtain ⟨P, st, hs, h⟩ := h
    have h : PostO (gl X) F W D P i j (.nx st) := h
    obtain ⟨x', y', ei, ej, h⟩ := h
    obtain ⟨o1, e1, a1, rfl, hB1, ho1⟩ := hs.at_ ei
    obtain ⟨o2, e2, a2, rfl, hB2, ho2⟩ := hs.at_ ej
    refine ⟨V.ref a1, e1, V.ref a2, e2, show 2 ≤ PySem.sizeLine by decide, fun q hq => ?_⟩
    have g := Gr.made (o := HO.tup [V.ref a1, V.ref a2]) hs.ex hq
    exact h _ σ P _ GrS.refl (hs.grow g) ⟨q, a1, a2, rfl, upd_same, fun z => hs.dist i j _ _ a1 hij ei ej rfl rfl e1 (z ▸ e2), hB1, hB2, ho1.grow g, ho2.grow g⟩
  · cases h
theorem okSsO_ok (c : CxtS F W X N sc true lv) (hij : i ≠ j) : ∀ (r : ISs) (ss : List Stmt), okSsO N sc i j r ss = true → reqSs (gl X) lv r → PSs X ss (tSsO (gl X) F W fu i j r)
  | .nil, [], h, _ => by cases h
  | .nil, [s], h, _ => okRetO_ok c hij h
  | .nil, _ :: _ :: _, h, _ => by cases h
  | .cons _ _, [], h, _ => by cases h
  | .cons a r, s :: ss, h, q => by
    have h : (okS N sc true a s && okSsO N sc i j r ss) = true := h
    rw [Bool.and_eq_true] at h
    refine (pss_cons (okS_ok (fu := fu) c a s h.1 q.1) (okSsO_ok c hij r ss h.2 q.2)).weak fun D σ H h => ?_
    obtain ⟨P, st, hs, h⟩ := h
    refine ⟨P, st, hs, ?_⟩
    have h : PostO (gl X) F W D P i j (thenF (evS fu a st) fun s => evSs fu r s) := h
    generalize evS fu a st = rr at h ⊢
    cases rr with
    | nx s => exact fun σ' P' H' g hs' => ⟨P', s, hs', PostO.move h g⟩
    | er c p s => exact h
    | _ => exact h.elim
end
def runO (fu n i j : Nat) (body : ISs) (ds : List D) : R (List D) := match evSs fu body (stF n [] ds) with
  | .nx st => match st[i]?, st[j]? with
    | some (.own x), some (.own y) => .ok [x, y]
    | _, _ => .bad
  | .er c p _ => .err c p
  | _ => .bad
section
variable {G : Glob}
theorem fn_soundO {x qual : Str} {st : Stmt} {f : Addr} {fd : FuncData} {N ps : List Str} {lv fu i j : Nat} {body : ISs} (Fn : Fun G.K x qual st f fd) (S : FnScope N ps (defScope st)) (bi : ∀ n ∈ biNames, G.mg n = none) (hij : i ≠ j)
    (hs : okSsO N (defScope st) i j body (defBody st) = true) (hr : reqSs G lv body) : FnOk G.P G.w G.K G.mg G.base (L2.CX G.P G.w) (lv + 1) f fd ps (spO G ps.length (runO fu N.length i j body)) := by
  have hpl : ps.length ≤ N.length := by have := congrArg List.length S.pre; rw [List.length_take] at this; omega
  refine Fn.okX S (fun vs H Q E h => h.1) fun cdv A outer s H vs Q E hrm hsp => ?_
  obtain ⟨hn, P, ds, sP, r, hF⟩ := hsp
  have ha : ArgsOk G [] H P H ds vs := ⟨r.length, fun i d v e1 e2 => by
    rw [if_neg (by simp)]
    obtain ⟨v', e3, r'⟩ := r.get e1
    rw [e2] at e3
    cases e3
    exact r', fun i j a _ hi => (by cases hi)⟩
  have c : CxtS (fxOf H [] vs) (fun cls d _ H' => E cls d H') (cxOf (L2.CX G.P G.w) G.P G.w G.K G.mg G.base N qual (defScope st) f cdv A outer s H E) N (defScope st) true lv :=
    ⟨⟨rfl, S.nd, rfl, fun _ => rfl, fun _ => hrm, Nat.lt_of_le_of_lt (by show _ ≤ (A.deeper (envOfC qual (defScope st) s.heap.objs.size f cdv)).units + 16 * lv + 200; show (A.deeper _).units + 65 ≤ _; omega) hrm.un, takes_of rfl rfl rfl rfl, passes_of rfl, fun x h => h, fun x h => ⟨h, rfl⟩, bi, fun a cls dx h => by cases h⟩, rfl, rfl, S.kind⟩
  refine ⟨_, okSsO_ok (fu := fu) c hij body (defBody st) hs hr, P, stF N.length [] ds, stOk_start (by omega) sP (Same.refl _) ha, ?_⟩
  unfold runO at hF
  generalize evSs fu body (stF N.length [] ds) = rr at hF ⊢
  cases rr with
  | nx st' =>
    simp only at hF
    split at hF
    · rename_i x' y' e1 e2
      exact ⟨x', y', e1, e2, fun v σ' P' H' g hs' o => hF P' H' ⟨g.pp, hs'.exB, hs'.ex, g.nw⟩ x' y' v rfl o⟩
    · exact hF.elim
  | er c p st' => exact fun σ' P' H' cls dx g hs' e => hF P' H' cls dx ⟨g.pp, hs'.exB, hs'.ex, g.nw⟩ e
  | _ => exact hF.elim
end
/-- a def's text is the small language's, but for the two things handed out at its end -/
def okFnO (N ps : List Str) (i j : Nat) (body : ISs) (st : Stmt) : Bool := scopeB N ps (defScope st) && decide (i ≠ j) && okSsO N (defScope st) i j body (defBody st)
theorem fnO {G : Glob} {x qual : Str} {st : Stmt} {f : Addr} {fd : FuncData} {N ps : List Str} {lv : Nat} (fu n i j : Nat) {body : ISs} (Fn : Fun G.K x qual st f fd) (bi : ∀ n ∈ biNames, G.mg n = none) (hn : n = N.length)
    (ok : okFnO N ps i j body st = true) (hr : reqSs G lv body) : FnOk G.P G.w G.K G.mg G.base (L2.CX G.P G.w) (lv + 1) f fd ps (spO G ps.length (runO fu n i j body)) := by
  simp only [okFnO, Bool.and_eq_true, decide_eq_true_eq] at ok
  subst hn
  exact fn_soundO Fn (scopeB_ok ok.1.1) bi ok.1.2 ok.2 hr
end M
set_option Elab.async false
set_option linter.all false
set_option maxRecDepth 100000
set_option maxHeartbeats 4000000
/-! M, part X: an own exception class whose __init__ says super().__init__('..') and keeps what is handed in. -/
namespace M
open PySem L2 PySem.Spec PyProof.Rows PySem.W

/-- what the written part says of such a class -/
structure R1C (prog : Program) (K : Frag) (C fI cda cc : Addr) (st : Stmt) (f : Str) : Prop where
  ox : OexC K C
  hd : ∃ cd, clsIn K C = some cd
  ini : findIn K (.ref C) "__init__" = some (some (.ref fI))
  fty : typeIn K (.ref fI) = some (.type "function")
  no : findIn K (.ref C) f = some none
  fn : ∃ oc od kV doc pm an ct osl qual, K.lookup fI = some ⟨oc, od, .func (ksFn "__init__" qual (defArgs st) (defBody st) (defScope st) .none kV doc pm an (.ref cda) ct cc), osl⟩ ∧ codeIn K (.ref cda) qual = true
  code : ∃ ccl cdd vs ccs file tf, K.lookup cda = some ⟨ccl, cdd, .fields vs, ccs⟩ ∧ vs[2]? = some (.str file tf) ∧ ((prog.main.file : Str) == file) = true
  cell : ∃ cl cld csl, K.lookup cc = some ⟨cl, cld, .cell (some (.ref C)), csl⟩
  sub : mroIn K C (.ref C) = some true
  opq : nsIn K cStatics "thirdparty.any" = some none
  sup : ks_superIn K C C "__init__" = some (some (.builtin "ValueError.__init__"))
  ve : subIn K (.ref C) (.type "ValueError") = some true
  top : (prog.main.scope.names.lookup ("super" : Str)).isSome = false
/-- the text of such an __init__ -/
structure R1T (st : Stmt) (f : Str) : Prop where
  tx : ∃ (self at_ : Str) (p0 p1 p2 p3 p4 p5 q0 q1 q2 q3 : Pos) (j : Nat) (t : Str), defBody st = [.Expr (.Call (.Attribute (.Call (.Name "super" p0) [] [] p1) "__init__" p2) [.Constant (.str t) j p3] [] p4) p5,
    .Assign [.Attribute (.Name self q0) f q1] (.Name at_ q2) q3] ∧ (∃ ar br, (defArgs st).posonlyargs = [] ∧ (defArgs st).args = [ar, br] ∧ ar.arg = self ∧ br.arg = at_ ∧ (defArgs st).vararg.isNone = true ∧ (defArgs st).kwonlyargs = [] ∧ (defArgs st).kwarg.isNone = true ∧ (defArgs st).defaults = []) ∧ self ≠ at_ ∧
    (defScope st).names.lookup self = some .local ∧ (defScope st).names.lookup at_ = some .local ∧ (self == ("__debug__" : Str)) = false ∧ (at_ == ("__debug__" : Str)) = false ∧ ((p2.endLine == p4.line) = true)
  su : (defScope st).names.lookup ("super" : Str) = some .globalImplicit
  cl : (defScope st).names.lookup ("__class__" : Str) = some .free
  nc : ∀ x ∈ (defScope st).names, x.2 ≠ .cell
  co : (defScope st).isCoroutine = false
  ge : (defScope st).isGenerator = false
  ki : (defScope st).kind = .function
  bd : ∀ (qual : Str) (kV doc pm ct : Value) (an : Option Addr) (cda cc : Addr) (u v : Value), ∃ self at_, (∃ ar br, (defArgs st).args = [ar, br] ∧ ar.arg = self ∧ br.arg = at_) ∧ bindArgs (ksFn "__init__" qual (defArgs st) (defBody st) (defScope st) .none kV doc pm an (.ref cda) ct cc) ⟨[u, v], []⟩ = pure [(self, u), (at_, v)]

section
variable {prog : Program} {w : World} {A : Around} {s : Shared} {K : Frag} {C fI cda cc a t0 : Addr} {st : Stmt} {f : Str} {u : Value} {R : Result → Shared → Prop} {mg mb : Str → Option Value} {base : Heap}
/-- the heap behind it -/
def Made1 (h h' : Heap) (C a : Addr) (f : Str) (u : Value) : Prop := (∀ b o, b ≠ a → h.get? b = some o → h'.get? b = some o) ∧ ∃ t1 dx, h'.get? a = some { cls := .ref C, dict := some dx, data := .fields #[.ref t1, .none, .none, .none, .bool false, .none] } ∧ h.objs.size ≤ dx ∧ dx ≠ a ∧ h'.Ns1 dx (fun y => if y = f then some u else none)
theorem r1_run (T : R1C prog K C fI cda cc st f) (S : R1T st f) (kin : K.In s.heap) (glob : s.heap.Ns mainGlobals mg) (blt : s.heap.Ns builtinsNs mb) (hms : mg "super" = none) (hmb : mb "super" = some (.type "super")) (lim : s.heap.NoLimit) (room : A.depth < recursionLimit)
    (ha : s.heap.get? a = some (HandSPX.excO C t0)) (hKa : ∀ o, K.lookup a ≠ some o)
    (h : ∀ h' tk, Made1 s.heap h' C a f u → R (.ok (.ret .none)) { s with heap := h', toks := tk }) :
    codeAny (model prog w) A (.call (.ref fI) ⟨[.ref a, u], []⟩) R s := by
  obtain ⟨oc, od, kV, doc, pm, an, ct, osl, qual, hfn, hcode⟩ := T.fn
  obtain ⟨self, at_, p0, p1, p2, p3, p4, p5, q0, q1, q2, q3, j, t, hbody, ⟨ar, br, hpo, hargs, rfl, rfl, _⟩, hne, hls, hla, hds, hda, hline⟩ := S.tx
  obtain ⟨ccl, cdd, vs, ccs, file, tf, hcd, hvs, hfile⟩ := T.code
  obtain ⟨cl, cld, csl, hcell⟩ := T.cell
  obtain ⟨nm, q, N, bs, bm, sn, sub, ab, col, dd, k0, k1, k2, k3, k5, hC, hbm⟩ := T.ox.cls
  have hcl : clsIn K C = some { name := nm, bases := bs, mro := .ref C :: bm, ns := N, qualname := q, hasDict := true, slotNames := sn, subclasses := sub, abstract := ab, collection := col, hasDel := false } := by unfold clsIn; rw [hC] <;> rfl
  have hbind : BindsTo s (ksFn "__init__" qual (defArgs st) (defBody st) (defScope st) .none kV doc pm an (.ref cda) ct cc) ⟨[.ref a, u], []⟩ [(ar.arg, .ref a), (br.arg, u)] := by
    obtain ⟨s', a', ⟨ar', br', e1, e2, e3⟩, e4⟩ := S.bd qual kV doc pm ct an cda cc (.ref a) u
    rw [hargs] at e1
    cases e1
    subst e2 e3
    exact .of_eq e4
  obtain ⟨hp, g, d, tk, os⟩ := s
  refine ks_codeAny_call_defAt (fd := ksFn "__init__" qual (defArgs st) (defBody st) (defScope st) .none kV doc pm an (.ref cda) ct cc) (body := defBody st) (binds := [(ar.arg, .ref a), (br.arg, u)]) room (kin _ _ hfn) rfl lim (codeRec_of kin hcode) rfl hbind S.nc
    (fun y hy => ?_) (fun h0 hns hk => ?_) S.co S.ge S.ki
  · rcases List.mem_cons.mp hy with rfl | hy
    · exact hls
    · rw [List.mem_singleton.mp hy]; exact hla
  generalize hE : callEnv (ksFn "__init__" qual (defArgs st) (defBody st) (defScope st) .none kV doc pm an (.ref cda) ct cc) hp.objs.size fI = env
  have eq_env : env = ksEnv qual (defScope st) hp.objs.size fI (.ref cda) cc := hE.symm
  have hk1 : env.kindOf "super" = some .globalImplicit := by rw [eq_env]; exact S.su
  have hk2 : env.kindOf "__class__" = some .free := by rw [eq_env]; exact S.cl
  have hk3 : env.kindOf ar.arg = some .local := by rw [eq_env]; exact hls
  have hk4 : env.kindOf br.arg = some .local := by rw [eq_env]; exact hla
  have hki : env.scope.kind = .function := by rw [eq_env]; exact S.ki
  have hin : interactive env = false := by unfold interactive; rw [hki]; rfl
  have kin0 : K.In h0 := kin.keeps hk
  have ha0 : h0.get? a = some (HandSPX.excO C t0) := hk _ _ ha
  have hnsL : h0.Ns env.locals (fun x => ([(ar.arg, Value.ref a), (br.arg, u)] : List (Str × Value)).reverse.lookup x) := by rw [eq_env]; exact hns
  have hv1 : ([(ar.arg, Value.ref a), (br.arg, u)] : List (Str × Value)).reverse.lookup ar.arg = some (.ref a) := by
    show List.lookup ar.arg [(br.arg, u), (ar.arg, Value.ref a)] = _
    have : (ar.arg == br.arg) = false := beq_eq_false_iff_ne.mpr hne
    rw [List.lookup_cons, this, List.lookup_cons, beq_self_eq_true]
  have hv2 : ([(ar.arg, Value.ref a), (br.arg, u)] : List (Str × Value)).reverse.lookup br.arg = some u := by
    show List.lookup br.arg [(br.arg, u), (ar.arg, Value.ref a)] = _
    rw [List.lookup_cons, beq_self_eq_true]
  rw [hbody]
  refine ks_wpAt_execs_cons (ks_wpAt_Expr_any (hi := hin) (hs := swaps_no rfl) (ks_wpAt_MethodCall (pl := do return (← importBound (.Call (.Name "super" p0) [] [] p1) env).getD true) (he := ?he) ?_))
  case he =>
    have hform : methodCallForm ([.Constant (.str t) j p3] : List Expr).length (backTo p4 (starEach [.Constant (.str t) j p3] env)) (backToKw p4 (keywordEach [] env)) = true := form_ok (fun e he => by rw [List.mem_singleton.mp he]; rfl) (show 1 < 30 by decide)
    show (do
        let ov ← attributeBase (.Call (.Name "super" p0) [] [] p1) "__init__" env (eval (.Call (.Name "super" p0) [] [] p1) env)
        standAt p2.atName
        methodCall (.Call (.Name "super" p0) [] [] p1) "__init__" p2 p4 env ov (([.Constant (.str t) j p3] : List Expr).length + ([] : List Keyword).length) (backTo p4 (starEach [.Constant (.str t) j p3] env)) (backToKw p4 (keywordEach [] env))) = _
    have h0 : ([.Constant (.str t) j p3] : List Expr).length + ([] : List Keyword).length = ([.Constant (.str t) j p3] : List Expr).length := rfl
    unfold methodCall calleeOf methodCallPos
    rw [h0, hform, hline]
    rfl
  rw [eq_env] at *
  refine ks_wpAt_super_base (env := ksEnv qual (defScope st) hp.objs.size fI (.ref cda) cc) hk1 hk2 (by decide) rfl (kin0 _ _ hfn) rfl (ar := ar) (by show ((defArgs st).posonlyargs ++ (defArgs st).args).head? = _; rw [hpo, hargs]; rfl) rfl (kin0 _ _ hcd) rfl hvs hfile T.top ?_
  refine ks_loadName_global hki hk1 (Calls.loadGlobal_builtin (env := ksEnv qual (defScope st) hp.objs.size fI (.ref cda) cc) (glob.keeps hk) hms (blt.keeps hk) hmb ⟨rfl, ?_⟩)
  refine wpAny_loadName_free hki hk2 rfl ⟨_, kin0 _ _ hcell, rfl⟩ ?_
  refine wpAny_loadName_local hki hk3 hnsL hv1 ?_
  have hCo := kin0 _ _ hC
  refine ks_wpAny_isType_cls hCo rfl ⟨rfl, ?_⟩
  refine ks_wpAny_call_super hCo rfl ha0 rfl (fun c e => by cases e) (looks_mroIn kin0 T.sub) (fun h1 e1 keep1 => ?_)
  have kin1 : K.In h1 := kin0.keeps keep1
  have ha1 := keep1 _ _ ha0
  have I1 : InstAt h1 a (HandSPX.excO C t0) C none := ⟨ha1, rfl, rfl, trivial⟩
  have hsup := T.sup
  unfold ks_superIn at hsup
  rw [hcl] at hsup
  refine kxs_getMethod kxs_ValueError (l₀ := .ref C :: bm) e1 (looks_opaque kin1 T.opq) (fun A Q E s k q => wpAny_bind ((looks_clsIn kin1 hcl) A _ E s k (wpAny_pure q))) rfl kin1 hsup (I1.type.andThen (looks_subIn kin1 T.ve)) (ks_ne kin1 I1 hcl) (by decide) ?_
  have ha2 : (h1.push (kxs_mw "ValueError.__init__" a)).get? a = some (HandSPX.excO C t0) := Heap.get?_push_of_some _ ha1
  have hmw : (h1.push (kxs_mw "ValueError.__init__" a)).get? h1.objs.size = some (kxs_mw "ValueError.__init__" a) := Heap.get?_push_at rfl rfl
  refine kxs_callWith (i := "ValueError.__init__") (x := a) rfl ?_
  refine Calls.evalArgs_plain (Calls.spliced_cons (Calls.Constant_str (k := j) (pos := p3) (Calls.spliced_nil ⟨hmw, ?_⟩)))
  have kin2 : K.In (h1.push (kxs_mw "ValueError.__init__" a)) := kin1.keeps fun b o e => Heap.get?_push_of_some _ e
  refine wpAny_call (codeAny_of_tree ?_)
  show wpAny _ (A.deeper _).in1 (callAny (.ref h1.objs.size) _) _ _ _
  simp only [callAny]
  refine wpAny_bind (wpAny_load hmw ?_)
  simp only [kxs_mw, show (Value.type "method-wrapper" == Value.type "method" || Value.type "method-wrapper" == Value.type "builtin_function_or_method" || Value.type "method-wrapper" == Value.type "method-wrapper") = true by decide, if_true]
  refine KFB.if_so (by decide) ?_
  refine wpAny_bind (check_bound_init F.excBase_ValueError.toExcCallFacts (kin2 _ _ hC) ha2 rfl ?_)
  refine wpAny_bind (wpAny_pure (wpAny_pure ?_))
  refine ⟨plainId_quiet F.excBase_ValueError.init.plain _, codeAny_builtin F.excBase_ValueError.initEntry ?_⟩
  refine exc_init_tree (cls := .ref C) (t0 := t0) (dv := none) (c2 := .none) (c3 := .none) (b4 := .bool false) ha2 (by show 1 ≤ sizeLine; decide) fun h3 keep3 ha3 _ => ?_
  have ne_a : ∀ {b : Addr} {o : Obj}, hp.get? b = some o → True := fun _ => trivial
  have la : a < hp.objs.size := Heap.lt_size ha
  have k03 : ∀ b o, b ≠ a → h0.get? b = some o → h3.get? b = some o := fun b o hb e => keep3 b o hb (Heap.get?_push_of_some _ (keep1 b o e))
  have hnsL3 : h3.Ns hp.objs.size (fun x => ([(ar.arg, Value.ref a), (br.arg, u)] : List (Str × Value)).reverse.lookup x) := by
    obtain ⟨oL, es, ep, ho, r⟩ := hnsL
    exact ⟨oL, es, ep, k03 _ _ (Nat.ne_of_gt la) ho, r⟩
  have kin3 : K.In h3 := fun b o e => by
    by_cases hb : b = a
    · subst hb; exact absurd e (hKa o)
    · exact k03 b o hb (kin0 b o e)
  show PySem.wpAt _ _ _ (execs [.Assign [.Attribute (.Name ar.arg q0) f q1] (.Name br.arg q2) q3] _) _ _ _
  refine PySem.wpAt_of_wpAny (wpAny_execs_cons (plainObj_wpAny_Assign_Attribute (hs := swaps_no rfl) ?_))
  refine wpAny_Name (wpAny_loadName_local hki hk4 hnsL3 hv2 ?_) hda
  refine wpAny_Name (wpAny_loadName_local hki hk3 hnsL3 hv1 ?_) hds
  refine PySem.W.set_plain kin3 (ox := { cls := .ref C, dict := none, data := .fields #[.ref _, .none, .none, .none, .bool false, .none] }) (od := none) ⟨ha3, rfl, rfl, trivial⟩ T.ox.sa ?_
  refine PySem.HandSPX.exc_osa kin3 ha3 hcl (show PySem.HandSPX.refsVE (.ref C :: bm) = true from hbm) rfl T.no (fun h' tk' dx k dn dne hx hn => ?_)
  refine wpAny_execs_nil (h h' tk' ⟨fun b o hb e => k b o hb (k03 b o hb (hk b o e)), _, dx, hx, ?_, dne, hn⟩)
  have l1 : hp.objs.size ≤ h3.objs.size := by
    obtain ⟨oL, es, ep, ho, r⟩ := hnsL3
    exact Nat.le_of_lt (Heap.lt_size ho)
  exact Nat.le_trans l1 dn
end
theorem r1_ok {G : Glob} {lv : Nat} {c f : Str} {C fI cda cc : Addr} {st : Stmt} (hlv : 1 ≤ lv) (hm : G.mg c = some (.ref C)) (T : R1C G.P G.K C fI cda cc st f) (S : R1T st f) : R1Ok G lv c f := by
  refine ⟨?_⟩
  intro X te e p pos hG hcalm hroom hgl hdb hns hsup he
  subst hG
  refine ⟨C, hm, ?_⟩
  intro pins s σ H Q I h
  obtain ⟨nm, q, N, bs, bm, sn, sub, ab, col, dd, k0, k1, k2, k3, k5, hC, hbm⟩ := T.ox.cls
  refine wpAny_Call_Name_kw (ld_glob I hgl hm ?_ hdb)
  have ha := (pa_cons he pa_nil (star_ok hns)).run pos pins s σ H (fun vs H1 => match vs with
    | [y] => ∀ d, H1 d = none → Q (.ref C) (some d) (upd H1 d (.xd [(f, y)]))
    | _ => False) I h
  refine PySem.W.callWith_K (h₀ := X.base) I.ok.mod.kin T.ox.kC (thn ha fun us s1 ⟨vs, H1, I1, r1, q1⟩ => ⟨I1.kIn, ?_⟩) (star_ok hns) rfl
  obtain ⟨y, rfl⟩ : ∃ y, vs = [y] := by
    cases vs with
    | nil => exact q1.elim
    | cons y r => cases r with
      | nil => exact ⟨y, rfl⟩
      | cons _ _ => exact q1.elim
  obtain ⟨u, rfl, ru⟩ := r1.one
  show wpAny _ _ (call (.ref C) [u]) _ _ _
  obtain ⟨hp, g, dr, tk, os⟩ := s1
  have kk : ∀ b o, hp.get? b = some o → ((hp.push (PySem.W.kdv_tup [u])).push (PySem.HandSPX.excO C hp.objs.size)).get? b = some o := fun b o e => Heap.get?_push_of_some _ (Heap.get?_push_of_some _ e)
  have hget : ((hp.push (PySem.W.kdv_tup [u])).push (PySem.HandSPX.excO C hp.objs.size)).get? (hp.objs.size + 1) = some (PySem.HandSPX.excO C hp.objs.size) := by heap_get
  have hsize : ((hp.push (PySem.W.kdv_tup [u])).push (PySem.HandSPX.excO C hp.objs.size)).objs.size = hp.objs.size + 2 := by rw [Heap.size_push, Heap.size_push]
  obtain ⟨mb, hb1, hb2⟩ := I1.mod.blt
  have kin2 := I1.kIn.keeps kk
  have r : Room 0 X.A := hroom.mono (Nat.zero_le _)
  refine wpAny_call (PySem.HandSPX.call_own F.excBase_ValueError (fun Y => PySem.HandSPX.refsVE_contains Y bm hbm) (I1.kIn _ _ hC) (PySem.W.looks_findIn I1.kIn T.ini) (fun self => PySem.W.bind_fn I1.kIn self T.fty) (by show 1 ≤ sizeLine; decide) ?_)
  refine r1_run (mg := X.mg) (mb := mb) T S kin2 ((I1.mod.glob.keeps I1.bk).keeps kk) ((hb1.keeps I1.bk).keeps kk) hsup ((hb2 _ (by decide)).trans ?_) ((I1.nolimit).keeps kk) (((hroom.mono hlv).make C [u] []).depth) hget (fun o e => ?_) (fun h' tk' hmade => ?_)
  · first | rfl | kernel_rfl | decide +kernel
  · have := Heap.lt_size (I1.kIn _ _ e)
    exact absurd this (by show ¬ hp.objs.size + 1 < hp.objs.size; omega)
  · obtain ⟨keep, t1, dx, hx, hdx, hne, hn⟩ := hmade
    rw [hsize] at hdx
    refine ⟨rfl, ?_⟩
    have nd : H1 dx = none := I1.hok.fresh (Nat.le_trans (Nat.le_add_right _ 2) hdx)
    have na : H1 (hp.objs.size + 1) = none := I1.hok.fresh (Nat.le_succ _)
    obtain ⟨G', g1', g2'⟩ := restrict h' fun b => decide (b ≠ hp.objs.size + 1)
    have gk : ∀ b, b ≠ hp.objs.size + 1 → G'.get? b = h'.get? b := fun b hb => g1' b (decide_eq_true hb)
    have ge : G'.get? (hp.objs.size + 1) = none := g2' _ (by simp)
    have kG : ∀ b o, hp.get? b = some o → G'.get? b = some o := fun b o e => by
      have hb : b ≠ hp.objs.size + 1 := Nat.ne_of_lt (Nat.lt_succ_of_lt (Heap.lt_size e))
      rw [gk b hb]
      exact keep b o hb (kk b o e)
    have J : Inv X pins σ (upd H1 dx (.xd [(f, y)])) ⟨G', g, dr, tk', os⟩ := I1.laid (t' := tk') (a := dx) (o := .xd [(f, y)]) (h' := G') kG (Nat.le_trans (Nat.le_add_right _ 2) hdx) ⟨_, (by
      obtain ⟨o, es, ep, ho, rr⟩ := hn
      exact ⟨o, es, ep, (gk dx hne).trans ho, rr⟩ : G'.Ns1 dx (fun z => if z = f then some u else none)), fun z => relO_put (fs := []) (mA := fun _ => none) ru (fun _ => True.intro) z⟩
    exact ⟨hp.objs.size + 1, _, _, ⟨G', g, dr, tk', os⟩, _, .ref C, some dx, rfl, J, fun b o e => by
      by_cases hb : b = hp.objs.size + 1
      · rw [hb, ge] at e; cases e
      · exact (gk b hb).symm.trans e, ge, hx, ⟨rfl, rfl⟩, rfl, rfl, by rw [upd_ne (Ne.symm hne)]; exact na, rfl, I1.bare, raises_own T.ox.exC T.ox.tyC, q1 dx nd⟩
end M
set_option Elab.async false
set_option linter.all false
set_option maxRecDepth 100000
set_option maxHeartbeats 4000000
/-! M, part N: an own exception with a field, made and held as a value. -/
namespace M
open PySem L2 PySem.Spec PyProof.Rows PySem.W
/-- the same, held as a value -/
theorem v1_ok {G : Glob} {lv : Nat} {c f : Str} {C fI cda cc : Addr} {st : Stmt} (hlv : 1 ≤ lv) (hm : G.mg c = some (.ref C)) (T : R1C G.P G.K C fI cda cc st f) (S : R1T st f) : V1Ok G lv c f := by
  refine ⟨?_⟩
  intro X te e p pos hG hcalm hroom hgl hdb hns hsup he
  subst hG
  refine ⟨C, hm, ?_⟩
  refine ⟨fun pins s σ H Q I h => ?_⟩
  obtain ⟨nm, q, N, bs, bm, sn, sub, ab, col, dd, k0, k1, k2, k3, k5, hC, hbm⟩ := T.ox.cls
  refine wpAny_Call_Name_kw (ld_glob I hgl hm ?_ hdb)
  have ha := (pa_cons he pa_nil (star_ok hns)).run pos pins s σ H (fun vs H1 => match vs with
    | [y] => ∀ a d, H1 d = none → (upd H1 d (.xd [(f, y)])) a = none → Q (.ref a) (upd (upd H1 d (.xd [(f, y)])) a (ExV (.ref C) (some d) a))
    | _ => False) I h
  refine PySem.W.callWith_K (h₀ := X.base) I.ok.mod.kin T.ox.kC (thn ha fun us s1 ⟨vs, H1, I1, r1, q1⟩ => ⟨I1.kIn, ?_⟩) (star_ok hns) rfl
  obtain ⟨y, rfl⟩ : ∃ y, vs = [y] := by
    cases vs with
    | nil => exact q1.elim
    | cons y r => cases r with
      | nil => exact ⟨y, rfl⟩
      | cons _ _ => exact q1.elim
  obtain ⟨u, rfl, ru⟩ := r1.one
  show wpAny _ _ (call (.ref C) [u]) _ _ _
  obtain ⟨hp, g, dr, tk, os⟩ := s1
  have kk : ∀ b o, hp.get? b = some o → ((hp.push (PySem.W.kdv_tup [u])).push (PySem.HandSPX.excO C hp.objs.size)).get? b = some o := fun b o e => Heap.get?_push_of_some _ (Heap.get?_push_of_some _ e)
  have hget : ((hp.push (PySem.W.kdv_tup [u])).push (PySem.HandSPX.excO C hp.objs.size)).get? (hp.objs.size + 1) = some (PySem.HandSPX.excO C hp.objs.size) := by heap_get
  have hsize : ((hp.push (PySem.W.kdv_tup [u])).push (PySem.HandSPX.excO C hp.objs.size)).objs.size = hp.objs.size + 2 := by rw [Heap.size_push, Heap.size_push]
  obtain ⟨mb, hb1, hb2⟩ := I1.mod.blt
  have kin2 := I1.kIn.keeps kk
  have r : Room 0 X.A := hroom.mono (Nat.zero_le _)
  refine wpAny_call (PySem.HandSPX.call_own F.excBase_ValueError (fun Y => PySem.HandSPX.refsVE_contains Y bm hbm) (I1.kIn _ _ hC) (PySem.W.looks_findIn I1.kIn T.ini) (fun self => PySem.W.bind_fn I1.kIn self T.fty) (by show 1 ≤ sizeLine; decide) ?_)
  refine r1_run (mg := X.mg) (mb := mb) T S kin2 ((I1.mod.glob.keeps I1.bk).keeps kk) ((hb1.keeps I1.bk).keeps kk) hsup ((hb2 _ (by decide)).trans ?_) ((I1.nolimit).keeps kk) (((hroom.mono hlv).make C [u] []).depth) hget (fun o e => ?_) (fun h' tk' hmade => ?_)
  · first | rfl | kernel_rfl | decide +kernel
  · have := Heap.lt_size (I1.kIn _ _ e)
    exact absurd this (by show ¬ hp.objs.size + 1 < hp.objs.size; omega)
  · obtain ⟨keep, t1, dx, hx, hdx, hne, hn⟩ := hmade
    rw [hsize] at hdx
    refine ⟨rfl, ?_⟩
    have nd : H1 dx = none := I1.hok.fresh (Nat.le_trans (Nat.le_add_right _ 2) hdx)
    have na : H1 (hp.objs.size + 1) = none := I1.hok.fresh (Nat.le_succ _)
    obtain ⟨G', g1', g2'⟩ := restrict h' fun b => decide (b ≠ hp.objs.size + 1)
    have gk : ∀ b, b ≠ hp.objs.size + 1 → G'.get? b = h'.get? b := fun b hb => g1' b (decide_eq_true hb)
    have ge : G'.get? (hp.objs.size + 1) = none := g2' _ (by simp)
    have kG : ∀ b o, hp.get? b = some o → G'.get? b = some o := fun b o e => by
      have hb : b ≠ hp.objs.size + 1 := Nat.ne_of_lt (Nat.lt_succ_of_lt (Heap.lt_size e))
      rw [gk b hb]
      exact keep b o hb (kk b o e)
    have J : Inv X pins σ (upd H1 dx (.xd [(f, y)])) ⟨G', g, dr, tk', os⟩ := I1.laid (t' := tk') (a := dx) (o := .xd [(f, y)]) (h' := G') kG (Nat.le_trans (Nat.le_add_right _ 2) hdx) ⟨_, (by
      obtain ⟨o, es, ep, ho, rr⟩ := hn
      exact ⟨o, es, ep, (gk dx hne).trans ho, rr⟩ : G'.Ns1 dx (fun z => if z = f then some u else none)), fun z => relO_put (fs := []) (mA := fun _ => none) ru (fun _ => True.intro) z⟩
    have na' : (upd H1 dx (.xd [(f, y)])) (hp.objs.size + 1) = none := by rw [upd_ne (Ne.symm hne)]; exact na
    have J2 : Inv X pins σ (upd (upd H1 dx (.xd [(f, y)])) (hp.objs.size + 1) (ExV (.ref C) (some dx) (hp.objs.size + 1))) ⟨h', g, dr, tk', os⟩ := Inv.laidN (t' := tk') (h' := h') J (fun b o e => by
      by_cases hb : b = hp.objs.size + 1
      · rw [hb, ge] at e; cases e
      · exact (gk b hb).symm.trans e) ge na' (exV_ok hx ⟨rfl, rfl⟩ rfl)
    exact ⟨.ref (hp.objs.size + 1), _, J2, rfl, q1 _ dx nd na'⟩
/-- from a list of names, each with what it must keep -/
theorem lk_all {α : Type} {P : Str → α → Prop} : ∀ {ks : List (Str × α)}, (∀ p ∈ ks, P p.1 p.2) → ∀ c b, ks.lookup c = some b → P c b
  | [], _, _, _, h => by cases h
  | (k, v) :: ks, hp, c, b, h => by
    rw [List.lookup_cons] at h
    by_cases e : c = k
    · subst e
      rw [show (c == c) = true from beq_self_eq_true c] at h
      cases h
      exact hp _ List.mem_cons_self
    · rw [show (c == k) = false from beq_eq_false_iff_ne.mpr e] at h
      exact lk_all (fun p h => hp p (List.mem_cons_of_mem _ h)) c b h
theorem vcall_mk {G : Glob} {lv k : Nat} (ks : List (Str × (List D → R D))) (h : ∀ p ∈ ks, CallOk G lv p.1 k p.2) : VcallOk G lv k ks := ⟨lk_all h⟩
end M
set_option Elab.async false
set_option linter.all false
set_option maxRecDepth 100000
set_option maxHeartbeats 4000000
/-! What all laws share: the numbers that are drawn from a script. -/
namespace M
open PySem L2
section
variable {a b : Int} {x y : D} {l m : List D} {st : ES} {α β : Type}
theorem ev_bo {a : α} {f : α → R β} : (R.ok a).bind f = f a := rfl
theorem ev_be {c : Str} {p : Option (Str × D)} {f : α → R β} : (R.err c p : R α).bind f = .err c p := rfl
theorem ev_bb {f : α → R β} : (R.bad : R α).bind f = .bad := rfl
theorem ev_rs {a : α} : R.of (some a) = .ok a := rfl
theorem ev_rn : R.of (none : Option α) = .bad := rfl
theorem ev_add : binD .add (.int a) (.int b) = .ok (.int (a + b)) := rfl
theorem ev_sub : binD .sub (.int a) (.int b) = .ok (.int (a - b)) := rfl
theorem ev_mulr (h1 : -18446744073709551616 < b) (h2 : b < 18446744073709551616) : binD .mul (.int a) (.int b) = .ok (.int (a * b)) := by
  show (if mulOk a b = true then _ else _) = _
  rw [if_pos (by unfold mulOk; rw [decide_eq_true (show -(2 ^ 64) < b from h1), decide_eq_true (show b < 2 ^ 64 from h2)]; simp)]
theorem ev_mull (h1 : -18446744073709551616 < a) (h2 : a < 18446744073709551616) : binD .mul (.int a) (.int b) = .ok (.int (a * b)) := by
  show (if mulOk a b = true then _ else _) = _
  rw [if_pos (by unfold mulOk; rw [decide_eq_true (show -(2 ^ 64) < a from h1), decide_eq_true (show a < 2 ^ 64 from h2)]; simp)]
theorem ev_mod (h : 0 < b) : binD .mod (.int a) (.int b) = .ok (.int (a % b)) := by show (if 0 < b then _ else _) = _; rw [if_pos h]
theorem ev_fdiv (h : 0 < b) (h2 : b < 1073741824) : binD .fdiv (.int a) (.int b) = .ok (.int (a / b)) := by show (if 0 < b ∧ b < 1073741824 then _ else _) = _; rw [if_pos ⟨h, h2⟩]
theorem ev_addl (h : l.length + m.length ≤ 16777216) : binD .add (.lst l) (.lst m) = .ok (.lst (l ++ m)) := by show (if l.length + m.length ≤ LIM then _ else _) = _; rw [if_pos h]
theorem ev_lt : cmpD .lt (.int a) (.int b) = .ok (decide (a < b)) := rfl
theorem ev_le : cmpD .le (.int a) (.int b) = .ok (decide (a ≤ b)) := rfl
theorem ev_gt : cmpD .gt (.int a) (.int b) = .ok (decide (b < a)) := rfl
theorem ev_ge : cmpD .ge (.int a) (.int b) = .ok (decide (b ≤ a)) := rfl
theorem ev_eqi : cmpD .eq (.int a) (.int b) = .ok (a == b) := rfl
theorem ev_nei : cmpD .ne (.int a) (.int b) = .ok (!(a == b)) := rfl
theorem ev_tb {b : Bool} : tru (.bl b) = .ok b := rfl
theorem ev_ti : tru (.int a) = .ok (a != 0) := rfl
theorem ev_tn : tru .non = .ok false := rfl
theorem ev_tl : tru (.lst l) = .ok (!l.isEmpty) := rfl
theorem ev_lenl : b1D .len (.lst l) = .ok (.int l.length) := rfl
theorem ev_lens : b1D .len (.scr l) = .ok (.int l.length) := rfl
theorem ev_lent : b1D .len (.tup l) = .ok (.int l.length) := rfl
theorem ev_abs : b1D .abs (.int a) = .ok (.int (if a < 0 then -a else a)) := rfl
theorem ev_int : b1D .int (.int a) = .ok (.int a) := rfl
theorem ev_max2 : b2D .max (.int a) (.int b) = .ok (.int (if b > a then b else a)) := rfl
theorem ev_min2 : b2D .min (.int a) (.int b) = .ok (.int (if b < a then b else a)) := rfl
theorem ev_ai : asInt (.int a) = .ok a := rfl
theorem ev_ixl : idxD (.lst l) (.int a) = R.of (atI l a) := rfl
theorem ev_ixs : idxD (.scr l) (.int a) = R.of (atI l a) := rfl
theorem ev_ixt : idxD (.tup l) (.int a) = R.of (atI l a) := rfl
theorem ev_sql : seqD (.lst l) = .ok l := rfl
theorem ev_sqs : seqD (.scr l) = .ok l := rfl
theorem ev_sqt : seqD (.tup l) = .ok l := rfl
theorem ev_rng (h1 : -4611686018427387904 ≤ a) (h2 : a < 4611686018427387904) : rangeD (.int a) = .ok (intsTo 0 a.toNat) := by show (if -(2 ^ 62) ≤ a ∧ a < 2 ^ 62 then _ else _) = _; rw [if_pos ⟨h1, h2⟩]
theorem ev_rng2 (h1 : -4611686018427387904 ≤ a) (h2 : a < 4611686018427387904) (h3 : -4611686018427387904 ≤ b) (h4 : b < 4611686018427387904) : range2D (.int a) (.int b) = .ok (intsTo a (b - a).toNat) := by show (if -(2 ^ 62) ≤ a ∧ a < 2 ^ 62 ∧ -(2 ^ 62) ≤ b ∧ b < 2 ^ 62 then _ else _) = _; rw [if_pos ⟨h1, h2, h3, h4⟩]
theorem ev_sl : sliceD (.lst l) = fun lo hi => .ok (.lst (cut l lo hi)) := rfl
theorem ev_ss : sliceD (.scr l) = fun lo hi => .ok (.lst (cut l lo hi)) := rfl
end
theorem mulOk_r {i j : Int} (h1 : -(2 ^ 64) < j) (h2 : j < 2 ^ 64) : mulOk i j = true := by unfold mulOk; rw [decide_eq_true h1, decide_eq_true h2]; simp
theorem mulOk_l {i j : Int} (h1 : -(2 ^ 64) < i) (h2 : i < 2 ^ 64) : mulOk i j = true := by unfold mulOk; rw [decide_eq_true h1, decide_eq_true h2]; simp
/-- a loop, by an invariant -/
theorem forRun_inv {bind : D → ES → R ES} {body : ES → Fl} (I : Nat → ES → Prop) : ∀ {l : List D} {i : Nat} {st : ES}, I i st → (∀ j x st, i ≤ j → l[j - i]? = some x → I j st → ∃ st1 st2, bind x st = .ok st1 ∧ body st1 = .nx st2 ∧ I (j + 1) st2) →
    ∃ st', forRun bind body l st = .nx st' ∧ I (i + l.length) st'
  | [], i, st, h, _ => ⟨st, rfl, h⟩
  | x :: l, i, st, h, hs => by
    obtain ⟨st1, st2, e1, e2, h2⟩ := hs i x st (Nat.le_refl _) (by simp) h
    obtain ⟨st', e3, h3⟩ := forRun_inv I (l := l) (i := i + 1) h2 fun j y s hj e hI => hs j y s (by omega) (by
      rw [show j - i = (j - (i + 1)) + 1 by omega, List.getElem?_cons_succ]; exact e) hI
    refine ⟨st', ?_, by rw [List.length_cons, show i + (l.length + 1) = i + 1 + l.length by omega]; exact h3⟩
    unfold forRun
    rw [e1]
    simp only
    rw [e2]
    exact e3
theorem forRun_inv0 {bind : D → ES → R ES} {body : ES → Fl} (I : Nat → ES → Prop) {l : List D} {st : ES} (h : I 0 st) (hs : ∀ j x st, l[j]? = some x → I j st → ∃ st1 st2, bind x st = .ok st1 ∧ body st1 = .nx st2 ∧ I (j + 1) st2) :
    ∃ st', forRun bind body l st = .nx st' ∧ I l.length st' := by
  obtain ⟨st', e, h'⟩ := forRun_inv I h (l := l) fun j x s _ e hI => hs j x s (by simpa using e) hI
  exact ⟨st', e, by simpa using h'⟩

def bRow : ISs := (.cons (.asg (.n 4) (.bin .mod (.b1 .int (.bin .add (.bin .mul (.bin .add (.var 4) (.int 1)) (.int 48271)) (.bin .mul (.int 69621) (.var 5)))) (.int 2147483647))) (.cons (.ife (.v (.cmp .gt (.var 3) (.int 0))) (.cons (.app 2 (.bin .mod (.b1 .int (.var 3)) (.int 1009))) (.cons (.asg (.n 3) (.bin .fdiv (.var 3) (.int 1009))) .nil)) (.cons (.app 2 (.bin .mod (.b1 .int (.bin .fdiv (.var 4) (.int 2048))) (.int 1009))) .nil)) .nil))
def irRow : ISs := (.cons (.own 2 (.lst .nil)) (.cons (.asg (.n 3) (.int 0)) (.cons (.ife (.v (.cmp .ge (.b1 .abs (.var 0)) (.bin .pow (.int 10) (.int 18)))) (.cons (.asg (.n 3) (.b1 .abs (.var 0))) .nil) .nil) (.cons (.asg (.n 4) (.bin .mod (.b1 .int (.b1 .abs (.var 0))) (.int 2147483647))) (.cons (.for_ (.n 5) (.r1 (.var 1)) bRow) (.cons (.frz 2) (.cons (.ret (.var 2)) .nil)))))))
def FRow (ds : List D) : R D := runD 100000 6 irRow ds
/-- small numbers: what is drawn -/
def Drawn1 (n : Nat) (xs : List Int) : Prop := xs.length = n ∧ ∀ x ∈ xs, 0 ≤ x ∧ x < 1009
theorem drawn_snoc {n : Nat} {xs : List Int} {x : Int} (h : Drawn1 n xs) (h1 : 0 ≤ x) (h2 : x < 1009) : Drawn1 (n + 1) (xs ++ [x]) := by
  refine ⟨by rw [List.length_append, h.1]; rfl, fun y hy => ?_⟩
  rcases List.mem_append.mp hy with hy | hy
  · exact h.2 y hy
  · rw [List.mem_singleton.mp hy]; exact ⟨h1, h2⟩
theorem intsTo_len {a : Int} {n : Nat} : (intsTo a n).length = n := by unfold intsTo; rw [List.length_map, List.length_range]
theorem intsTo_get {a : Int} {n j : Nat} {x : D} (h : (intsTo a n)[j]? = some x) : j < n ∧ x = .int (a + (j : Int)) := by
  have hj : j < n := by
    have := (List.getElem?_eq_some_iff.mp h).1
    rw [intsTo_len] at this; exact this
  unfold intsTo at h
  rw [List.getElem?_map, List.getElem?_range hj] at h
  exact ⟨hj, by simpa using h.symm⟩
def rowI (c m : Int) (j : Nat) (st : ES) : Prop := ∃ (xs : List Int) (rest state : Int) (k : Sl), (k = .un ∨ ∃ z, k = .val (.int z)) ∧ Drawn1 j xs ∧
  st = [.val (.int c), .val (.int m), .own (.lst (xs.map D.int)), .val (.int rest), .val (.int state), k]
theorem row_loop {c m rest state : Int} (h1 : m ≤ 1000) : ∃ st', forRun (bindP (.n 5)) (fun s => evSs 100000 bRow s) (intsTo 0 m.toNat) [.val (.int c), .val (.int m), .own (.lst []), .val (.int rest), .val (.int state), .un] = .nx st' ∧ rowI c m m.toNat st' := by
  have z := forRun_inv0 (bind := bindP (.n 5)) (body := fun s => evSs 100000 bRow s) (rowI c m) (l := intsTo 0 m.toNat) (st := [.val (.int c), .val (.int m), .own (.lst []), .val (.int rest), .val (.int state), .un]) ⟨[], rest, state, .un, .inl rfl, ⟨rfl, fun _ h => by cases h⟩, rfl⟩ (fun j x st hx hI => by
    obtain ⟨xs, rest, state, k, hk, hd, rfl⟩ := hI
    obtain ⟨hj, rfl⟩ := intsTo_get hx
    have hl : xs.length < 16777216 := by rw [hd.1]; omega
    refine ⟨[.val (.int c), .val (.int m), .own (.lst (xs.map D.int)), .val (.int rest), .val (.int state), .val (.int (0 + (j : Int)))], ?_⟩
    by_cases hr : 0 < rest
    · refine ⟨[.val (.int c), .val (.int m), .own (.lst ((xs ++ [rest % 1009]).map D.int)), .val (.int (rest / 1009)), .val (.int (((state + 1) * 48271 + 69621 * (0 + (j : Int))) % 2147483647)), .val (.int (0 + (j : Int)))], ?_, ?_, _, _, _, _, .inr ⟨_, rfl⟩, drawn_snoc hd (Int.emod_nonneg _ (by decide)) (Int.emod_lt_of_pos _ (by decide)), rfl⟩
      · rcases hk with rfl | ⟨z, rfl⟩ <;> rfl
      · simp [evSs, evS, evE, evEs, evT, evAndT, evOrT, evAnd, evOr, evC, evO, evI, bindF, thenF, nxR, getv, getb, setv, bindP, setAll, ownD, putO, augF, frE, B1.fresh, runD, runM, outM, stF, st0, _root_.M.isNon, LIM, ev_bo, ev_be, ev_bb, ev_rs, ev_rn, ev_add, ev_sub, ev_mulr, ev_mull, ev_mod, ev_fdiv, ev_addl, ev_lt, ev_le, ev_gt, ev_ge, ev_eqi, ev_nei, ev_tb, ev_ti, ev_tn, ev_tl, ev_lenl, ev_lens, ev_lent, ev_abs, ev_int, ev_max2, ev_min2, ev_ai, ev_ixl, ev_ixs, ev_ixt, ev_sql, ev_sqs, ev_sqt, ev_rng, ev_rng2, ev_sl, ev_ss, bRow, hr, hl]
    · refine ⟨[.val (.int c), .val (.int m), .own (.lst ((xs ++ [((((state + 1) * 48271 + 69621 * (0 + (j : Int))) % 2147483647) / 2048) % 1009]).map D.int)), .val (.int rest), .val (.int (((state + 1) * 48271 + 69621 * (0 + (j : Int))) % 2147483647)), .val (.int (0 + (j : Int)))], ?_, ?_, _, _, _, _, .inr ⟨_, rfl⟩, drawn_snoc hd (Int.emod_nonneg _ (by decide)) (Int.emod_lt_of_pos _ (by decide)), rfl⟩
      · rcases hk with rfl | ⟨z, rfl⟩ <;> rfl
      · simp [evSs, evS, evE, evEs, evT, evAndT, evOrT, evAnd, evOr, evC, evO, evI, bindF, thenF, nxR, getv, getb, setv, bindP, setAll, ownD, putO, augF, frE, B1.fresh, runD, runM, outM, stF, st0, _root_.M.isNon, LIM, ev_bo, ev_be, ev_bb, ev_rs, ev_rn, ev_add, ev_sub, ev_mulr, ev_mull, ev_mod, ev_fdiv, ev_addl, ev_lt, ev_le, ev_gt, ev_ge, ev_eqi, ev_nei, ev_tb, ev_ti, ev_tn, ev_tl, ev_lenl, ev_lens, ev_lent, ev_abs, ev_int, ev_max2, ev_min2, ev_ai, ev_ixl, ev_ixs, ev_ixt, ev_sql, ev_sqs, ev_sqt, ev_rng, ev_rng2, ev_sl, ev_ss, bRow, hr, hl])
  rw [intsTo_len] at z
  exact z
theorem row_ok {c m : Int} (h0 : 0 ≤ m) (h1 : m ≤ 1000) : ∃ xs, FRow [.int c, .int m] = .ok (.lst (xs.map D.int)) ∧ Drawn1 m.toNat xs := by
  have hp : binD .pow (.int 10) (.int 18) = .ok (.int 1000000000000000000) := rfl
  have h2 : -4611686018427387904 ≤ m := by omega
  have h3 : m < 4611686018427387904 := by omega
  by_cases ha : 1000000000000000000 ≤ (if c < 0 then -c else c)
  · obtain ⟨st', e, xs, rest, state, k, hk, hd, rfl⟩ := row_loop (c := c) (m := m) (rest := (if c < 0 then -c else c)) (state := (if c < 0 then -c else c) % 2147483647) h1
    refine ⟨xs, ?_, hd⟩
    unfold FRow
    simp [evSs, evS, evE, evEs, evT, evAndT, evOrT, evAnd, evOr, evC, evO, evI, bindF, thenF, nxR, getv, getb, setv, bindP, setAll, ownD, putO, augF, frE, B1.fresh, runD, runM, outM, stF, st0, _root_.M.isNon, LIM, ev_bo, ev_be, ev_bb, ev_rs, ev_rn, ev_add, ev_sub, ev_mulr, ev_mull, ev_mod, ev_fdiv, ev_addl, ev_lt, ev_le, ev_gt, ev_ge, ev_eqi, ev_nei, ev_tb, ev_ti, ev_tn, ev_tl, ev_lenl, ev_lens, ev_lent, ev_abs, ev_int, ev_max2, ev_min2, ev_ai, ev_ixl, ev_ixs, ev_ixt, ev_sql, ev_sqs, ev_sqt, ev_rng, ev_rng2, ev_sl, ev_ss, irRow, hp, ha, h2, h3, e]
  · obtain ⟨st', e, xs, rest, state, k, hk, hd, rfl⟩ := row_loop (c := c) (m := m) (rest := 0) (state := (if c < 0 then -c else c) % 2147483647) h1
    refine ⟨xs, ?_, hd⟩
    unfold FRow
    simp [evSs, evS, evE, evEs, evT, evAndT, evOrT, evAnd, evOr, evC, evO, evI, bindF, thenF, nxR, getv, getb, setv, bindP, setAll, ownD, putO, augF, frE, B1.fresh, runD, runM, outM, stF, st0, _root_.M.isNon, LIM, ev_bo, ev_be, ev_bb, ev_rs, ev_rn, ev_add, ev_sub, ev_mulr, ev_mull, ev_mod, ev_fdiv, ev_addl, ev_lt, ev_le, ev_gt, ev_ge, ev_eqi, ev_nei, ev_tb, ev_ti, ev_tn, ev_tl, ev_lenl, ev_lens, ev_lent, ev_abs, ev_int, ev_max2, ev_min2, ev_ai, ev_ixl, ev_ixs, ev_ixt, ev_sql, ev_sqs, ev_sqt, ev_rng, ev_rng2, ev_sl, ev_ss, irRow, hp, ha, h2, h3, e]
def b0N : ISs := (.cons (.app 4 (.var 6)) .nil)
def b1N (F : List D → R D) : ISs := (.cons (.for_ (.n 6) (.seq (.call "_law_row" F (.cons (.var 5) (.cons (.var 3) .nil)))) b0N) .nil)
def b2N : ISs := (.cons (.app 4 (.int 0)) .nil)
def tN : IQ := (.v (.cmp .lt (.b1 .len (.bor 4)) (.var 1)))
def irNum (F : List D → R D) : ISs := (.cons (.asg (.n 2) (.slc (.var 0) .no (.some (.int 63)))) (.cons (.asg (.n 3) (.bin .add (.int 1) (.bin .fdiv (.var 1) (.b2 .max (.int 1) (.b1 .len (.var 2)))))) (.cons (.own 4 (.lst .nil)) (.cons (.for_ (.n 5) (.seq (.var 2)) (b1N F)) (.cons (.while_ tN b2N) (.cons (.ret (.slc (.bor 4) .no (.some (.var 1)))) .nil))))))
def FNum (ds : List D) : R D := runD 100000 7 (irNum FRow) ds
def okSl (s : Sl) : Prop := s = .un ∨ ∃ d, s = .val d
theorem drawn_app {n k : Nat} {xs ys : List Int} (h : Drawn1 n xs) (h' : Drawn1 k ys) : Drawn1 (n + k) (xs ++ ys) :=
  ⟨by rw [List.length_append, h.1, h'.1], fun y hy => by
    rcases List.mem_append.mp hy with hy | hy
    · exact h.2 y hy
    · exact h'.2 y hy⟩
theorem num_inner {A : M.D} {m each : Int} {C c5 : Sl} : ∀ (ys xs : List Int) (k : Sl), okSl k → xs.length + ys.length ≤ 100000 →
    ∃ k', okSl k' ∧ forRun (bindP (.n 6)) (fun s => evSs 100000 b0N s) (ys.map D.int) [.val A, .val (.int m), C, .val (.int each), .own (.lst (xs.map D.int)), c5, k] = .nx [.val A, .val (.int m), C, .val (.int each), .own (.lst ((xs ++ ys).map D.int)), c5, k']
  | [], xs, k, hk, _ => ⟨k, hk, by rw [List.append_nil]; rfl⟩
  | y :: ys, xs, k, hk, hl => by
    have hl1 : xs.length < 16777216 := by simp only [List.length_cons] at hl; omega
    obtain ⟨k', hk', e⟩ := num_inner (A := A) (m := m) (each := each) (C := C) (c5 := c5) ys (xs ++ [y]) (.val (.int y)) (.inr ⟨_, rfl⟩) (by simp only [List.length_append, List.length_cons, List.length_nil] at hl ⊢; omega)
    refine ⟨k', hk', ?_⟩
    rw [List.map_cons]
    unfold forRun
    have eb : bindP (.n 6) (.int y) [.val A, .val (.int m), C, .val (.int each), .own (.lst (xs.map D.int)), c5, k] = .ok [.val A, .val (.int m), C, .val (.int each), .own (.lst (xs.map D.int)), c5, .val (.int y)] := by
      rcases hk with rfl | ⟨z, rfl⟩ <;> rfl
    have es : evSs 100000 b0N [.val A, .val (.int m), C, .val (.int each), .own (.lst (xs.map D.int)), c5, .val (.int y)] = .nx [.val A, .val (.int m), C, .val (.int each), .own (.lst ((xs ++ [y]).map D.int)), c5, .val (.int y)] := by
      simp [evSs, evS, evE, evEs, evT, evAndT, evOrT, evAnd, evOr, evC, evO, evI, bindF, thenF, nxR, getv, getb, setv, bindP, setAll, ownD, putO, augF, frE, B1.fresh, runD, runM, outM, stF, st0, _root_.M.isNon, LIM, ev_bo, ev_be, ev_bb, ev_rs, ev_rn, ev_add, ev_sub, ev_mulr, ev_mull, ev_mod, ev_fdiv, ev_addl, ev_lt, ev_le, ev_gt, ev_ge, ev_eqi, ev_nei, ev_tb, ev_ti, ev_tn, ev_tl, ev_lenl, ev_lens, ev_lent, ev_abs, ev_int, ev_max2, ev_min2, ev_ai, ev_ixl, ev_ixs, ev_ixt, ev_sql, ev_sqs, ev_sqt, ev_rng, ev_rng2, ev_sl, ev_ss, b0N, hl1]
    rw [eb]
    simp only
    rw [es]
    simp only
    rw [e, List.append_assoc]
    rfl
theorem num_outer {A : M.D} {m each : Int} {C : Sl} (h0 : 0 ≤ each) (h1 : each ≤ 1000) : ∀ (cs : List Int) (n : Nat) (xs : List Int) (k5 k6 : Sl), okSl k5 → okSl k6 → Drawn1 n xs → n + cs.length * each.toNat ≤ 100000 →
    ∃ xs' k5' k6', okSl k5' ∧ okSl k6' ∧ Drawn1 (n + cs.length * each.toNat) xs' ∧
      forRun (bindP (.n 5)) (fun s => evSs 100000 (b1N FRow) s) (cs.map D.int) [.val A, .val (.int m), C, .val (.int each), .own (.lst (xs.map D.int)), k5, k6] = .nx [.val A, .val (.int m), C, .val (.int each), .own (.lst (xs'.map D.int)), k5', k6']
  | [], n, xs, k5, k6, h5, h6, hd, _ => ⟨xs, k5, k6, h5, h6, by simpa using hd, rfl⟩
  | c :: cs, n, xs, k5, k6, h5, h6, hd, hl => by
    obtain ⟨ys, er, hy⟩ := row_ok (c := c) h0 h1
    rw [List.length_cons, Nat.add_mul, Nat.one_mul] at hl
    obtain ⟨k', hk', ei⟩ := num_inner (A := A) (m := m) (each := each) (C := C) (c5 := .val (.int c)) ys xs k6 h6 (by rw [hd.1, hy.1]; omega)
    obtain ⟨xs', k5', k6', g5, g6, gd, e⟩ := num_outer (A := A) (m := m) (C := C) h0 h1 cs (n + each.toNat) (xs ++ ys) (.val (.int c)) k' (.inr ⟨_, rfl⟩) hk' (drawn_app hd hy) (by omega)
    refine ⟨xs', k5', k6', g5, g6, by rw [List.length_cons, Nat.add_mul, Nat.one_mul, show n + (cs.length * each.toNat + each.toNat) = n + each.toNat + cs.length * each.toNat by omega]; exact gd, ?_⟩
    rw [List.map_cons]
    unfold forRun
    have eb : bindP (.n 5) (.int c) [.val A, .val (.int m), C, .val (.int each), .own (.lst (xs.map D.int)), k5, k6] = .ok [.val A, .val (.int m), C, .val (.int each), .own (.lst (xs.map D.int)), .val (.int c), k6] := by
      rcases h5 with rfl | ⟨z, rfl⟩ <;> rfl
    have es : evSs 100000 (b1N FRow) [.val A, .val (.int m), C, .val (.int each), .own (.lst (xs.map D.int)), .val (.int c), k6] = .nx [.val A, .val (.int m), C, .val (.int each), .own (.lst ((xs ++ ys).map D.int)), .val (.int c), k'] := by
      simp [evSs, evS, evE, evEs, evT, evAndT, evOrT, evAnd, evOr, evC, evO, evI, bindF, thenF, nxR, getv, getb, setv, bindP, setAll, ownD, putO, augF, frE, B1.fresh, runD, runM, outM, stF, st0, _root_.M.isNon, LIM, ev_bo, ev_be, ev_bb, ev_rs, ev_rn, ev_add, ev_sub, ev_mulr, ev_mull, ev_mod, ev_fdiv, ev_addl, ev_lt, ev_le, ev_gt, ev_ge, ev_eqi, ev_nei, ev_tb, ev_ti, ev_tn, ev_tl, ev_lenl, ev_lens, ev_lent, ev_abs, ev_int, ev_max2, ev_min2, ev_ai, ev_ixl, ev_ixs, ev_ixt, ev_sql, ev_sqs, ev_sqt, ev_rng, ev_rng2, ev_sl, ev_ss, b1N, er, ei]
    rw [eb]
    simp only
    rw [es]
    simp only
    rw [e]
theorem num_pad {A : M.D} {m : Int} {C E k5 k6 : Sl} (h1 : m ≤ 1000) : ∀ (d fuel n : Nat) (xs : List Int), Drawn1 n xs → n ≤ 100000 → m.toNat - n = d → d < fuel →
    ∃ xs', Drawn1 (max n m.toNat) xs' ∧ whRun (fun s => evT tN s) (fun s => evSs 100000 b2N s) fuel [.val A, .val (.int m), C, E, .own (.lst (xs.map D.int)), k5, k6] = .nx [.val A, .val (.int m), C, E, .own (.lst (xs'.map D.int)), k5, k6]
  | _, 0, _, _, _, _, _, h => by omega
  | d, fuel + 1, n, xs, hd, hn, he, hf => by
    have hl := hd.1
    have hl1 : xs.length < 16777216 := by rw [hl]; omega
    unfold whRun
    by_cases hlt : (xs.length : Int) < m
    · have hlt' : n < m.toNat := by rw [hl] at hlt; omega
      obtain ⟨xs', hd', e⟩ := num_pad (A := A) (m := m) (C := C) (E := E) (k5 := k5) (k6 := k6) h1 (d - 1) fuel (n + 1) (xs ++ [0]) (drawn_snoc hd (by decide) (by decide)) (by omega) (by omega) (by omega)
      refine ⟨xs', by rw [show max n m.toNat = max (n + 1) m.toNat by omega]; exact hd', ?_⟩
      have et : evT tN [.val A, .val (.int m), C, E, .own (.lst (xs.map D.int)), k5, k6] = .ok true := by simp [evSs, evS, evE, evEs, evT, evAndT, evOrT, evAnd, evOr, evC, evO, evI, bindF, thenF, nxR, getv, getb, setv, bindP, setAll, ownD, putO, augF, frE, B1.fresh, runD, runM, outM, stF, st0, _root_.M.isNon, LIM, ev_bo, ev_be, ev_bb, ev_rs, ev_rn, ev_add, ev_sub, ev_mulr, ev_mull, ev_mod, ev_fdiv, ev_addl, ev_lt, ev_le, ev_gt, ev_ge, ev_eqi, ev_nei, ev_tb, ev_ti, ev_tn, ev_tl, ev_lenl, ev_lens, ev_lent, ev_abs, ev_int, ev_max2, ev_min2, ev_ai, ev_ixl, ev_ixs, ev_ixt, ev_sql, ev_sqs, ev_sqt, ev_rng, ev_rng2, ev_sl, ev_ss, tN, hlt]
      have es : evSs 100000 b2N [.val A, .val (.int m), C, E, .own (.lst (xs.map D.int)), k5, k6] = .nx [.val A, .val (.int m), C, E, .own (.lst ((xs ++ [0]).map D.int)), k5, k6] := by simp [evSs, evS, evE, evEs, evT, evAndT, evOrT, evAnd, evOr, evC, evO, evI, bindF, thenF, nxR, getv, getb, setv, bindP, setAll, ownD, putO, augF, frE, B1.fresh, runD, runM, outM, stF, st0, _root_.M.isNon, LIM, ev_bo, ev_be, ev_bb, ev_rs, ev_rn, ev_add, ev_sub, ev_mulr, ev_mull, ev_mod, ev_fdiv, ev_addl, ev_lt, ev_le, ev_gt, ev_ge, ev_eqi, ev_nei, ev_tb, ev_ti, ev_tn, ev_tl, ev_lenl, ev_lens, ev_lent, ev_abs, ev_int, ev_max2, ev_min2, ev_ai, ev_ixl, ev_ixs, ev_ixt, ev_sql, ev_sqs, ev_sqt, ev_rng, ev_rng2, ev_sl, ev_ss, b2N, hl1]
      rw [et]
      simp only [bindF, if_true]
      rw [es]
      exact e
    · refine ⟨xs, by rw [show max n m.toNat = n by rw [hl] at hlt; omega]; exact hd, ?_⟩
      have et : evT tN [.val A, .val (.int m), C, E, .own (.lst (xs.map D.int)), k5, k6] = .ok false := by simp [evSs, evS, evE, evEs, evT, evAndT, evOrT, evAnd, evOr, evC, evO, evI, bindF, thenF, nxR, getv, getb, setv, bindP, setAll, ownD, putO, augF, frE, B1.fresh, runD, runM, outM, stF, st0, _root_.M.isNon, LIM, ev_bo, ev_be, ev_bb, ev_rs, ev_rn, ev_add, ev_sub, ev_mulr, ev_mull, ev_mod, ev_fdiv, ev_addl, ev_lt, ev_le, ev_gt, ev_ge, ev_eqi, ev_nei, ev_tb, ev_ti, ev_tn, ev_tl, ev_lenl, ev_lens, ev_lent, ev_abs, ev_int, ev_max2, ev_min2, ev_ai, ev_ixl, ev_ixs, ev_ixt, ev_sql, ev_sqs, ev_sqt, ev_rng, ev_rng2, ev_sl, ev_ss, tN, hlt]
      rw [et]
      rfl
theorem cut_none {α : Type} (l : List α) (k : Int) (h : 0 ≤ k) : cut l none (some k) = l.take k.toNat := by
  have e : HT.sIx l.length l.length (some k) = min k.toNat l.length := by
    show (if k < 0 then (k + (l.length : Int)).toNat else min k.toNat l.length) = _
    rw [if_neg (by omega)]
  unfold cut
  rw [e]
  show ((l.drop 0).take (min k.toNat l.length - 0)) = _
  rw [List.drop_zero, Nat.sub_zero]
  by_cases hk : k.toNat ≤ l.length
  · rw [Nat.min_eq_left hk]
  · rw [Nat.min_eq_right (by omega), List.take_length, List.take_of_length_le (by omega)]
theorem each_ge {n m : Nat} (hn : 1 ≤ n) : m ≤ n * (1 + m / n) := by
  have h := Nat.div_add_mod m n
  have h2 := Nat.mod_lt m hn
  rw [Nat.mul_add, Nat.mul_one]
  omega
theorem num_ok {ns : List Int} {m : Int} (hn : ns.length ≤ 63) (h0 : 0 ≤ m) (h1 : m ≤ 999) : ∃ xs, FNum [.scr (ns.map D.int), .int m] = .ok (.lst (xs.map D.int)) ∧ Drawn1 m.toNat xs := by
  have hc : cut (ns.map D.int) none (some 63) = ns.map D.int := by rw [cut_none _ _ (by decide)]; exact List.take_of_length_le (by rw [List.length_map]; exact hn)
  have hmx : (if (ns.length : Int) > 1 then (ns.length : Int) else 1) = (max 1 ns.length : Nat) := by split <;> omega
  obtain ⟨M, hM, hM1, hM2, hM3⟩ : ∃ M : Nat, M = max 1 ns.length ∧ 1 ≤ M ∧ M ≤ 63 ∧ ns.length ≤ M := ⟨_, rfl, by omega, by omega, by omega⟩
  obtain ⟨Dv, hdl, hdiv, hge1⟩ : ∃ Dv : Nat, Dv ≤ m.toNat ∧ m / (M : Int) = (Dv : Int) ∧ True := ⟨m.toNat / M, Nat.div_le_self _ _, by
    have : m = (m.toNat : Int) := by omega
    rw [this]; simp, trivial⟩
  have he0 : (0 : Int) ≤ 1 + m / (M : Int) := by rw [hdiv]; omega
  have he1 : 1 + m / (M : Int) ≤ 1000 := by rw [hdiv]; omega
  have hen : (1 + m / (M : Int)).toNat = 1 + Dv := by rw [hdiv]; omega
  have hsz : 0 + ns.length * (1 + m / (M : Int)).toNat ≤ 100000 := by
    rw [hen, Nat.zero_add]
    calc ns.length * (1 + Dv) ≤ 63 * 1000 := Nat.mul_le_mul hn (by omega)
      _ ≤ 100000 := by decide
  obtain ⟨xs, k5, k6, h5, h6, hd, e⟩ := num_outer (A := .scr (ns.map D.int)) (m := m) (C := .val (.lst (ns.map D.int))) he0 he1 ns 0 [] .un .un (.inl rfl) (.inl rfl) ⟨rfl, fun _ h => by cases h⟩ hsz
  obtain ⟨ys, hy, e2⟩ := num_pad (A := .scr (ns.map D.int)) (m := m) (C := .val (.lst (ns.map D.int))) (E := .val (.int (1 + m / (M : Int)))) (k5 := k5) (k6 := k6) (by omega) _ 100000 _ xs hd hsz rfl (by omega)
  have hge : m.toNat ≤ max (0 + ns.length * (1 + m / (M : Int)).toNat) m.toNat := Nat.le_max_right _ _
  refine ⟨ys.take m.toNat, ?_, by rw [List.length_take, hy.1]; omega, fun x hx => hy.2 x (List.mem_of_mem_take hx)⟩
  have hM' : (if (ns.length : Int) > 1 then (ns.length : Int) else 1) = (M : Int) := by rw [hmx, hM]
  have hb1 : (0 : Int) < (M : Int) := by omega
  have hb2 : (M : Int) < 1073741824 := by omega
  have hfd : binD .fdiv (.int m) (.int (if 1 < (ns.length : Int) then (ns.length : Int) else 1)) = .ok (.int (m / (M : Int))) := by
    rw [show (if 1 < (ns.length : Int) then (ns.length : Int) else 1) = (M : Int) from hM', ev_fdiv hb1 hb2]
  have hcm : cut (ys.map D.int) none (some m) = (ys.take m.toNat).map D.int := by rw [cut_none _ _ h0, List.map_take]
  rw [List.map_nil] at e
  unfold FNum
  simp [evSs, evS, evE, evEs, evT, evAndT, evOrT, evAnd, evOr, evC, evO, evI, bindF, thenF, nxR, getv, getb, setv, bindP, setAll, ownD, putO, augF, frE, B1.fresh, runD, runM, outM, stF, st0, _root_.M.isNon, LIM, ev_bo, ev_be, ev_bb, ev_rs, ev_rn, ev_add, ev_sub, ev_mulr, ev_mull, ev_mod, ev_fdiv, ev_addl, ev_lt, ev_le, ev_gt, ev_ge, ev_eqi, ev_nei, ev_tb, ev_ti, ev_tn, ev_tl, ev_lenl, ev_lens, ev_lent, ev_abs, ev_int, ev_max2, ev_min2, ev_ai, ev_ixl, ev_ixs, ev_ixt, ev_sql, ev_sqs, ev_sqt, ev_rng, ev_rng2, ev_sl, ev_ss, irNum, hc, hfd, e, e2, hcm]
end M
set_option Elab.async false
set_option linter.all false
set_option maxRecDepth 100000
set_option maxHeartbeats 4000000
/-! The very same data, decided. -/
namespace M
open PySem L2
mutual
def same : D → D → Bool
  | .non, .non => true
  | .bl a, .bl b => decide (a = b)
  | .int a, .int b => decide (a = b)
  | .str a, .str b => decide (a = b)
  | .tup a, .tup b => sames a b
  | .lst a, .lst b => sames a b
  | .scr a, .scr b => sames a b
  | .dic t a b, .dic u c d => decide (t = u) && (sames a c && sames b d)
  | .fn a, .fn b => decide (a = b)
  | .exv c n v, .exv c' n' v' => decide (c = c') && decide (n = n') && sames v v'
  | .obj c n v, .obj c' n' v' => decide (c = c') && decide (n = n') && sames v v'
  | _, _ => false
def sames : List D → List D → Bool
  | [], [] => true
  | x :: xs, y :: ys => same x y && sames xs ys
  | _, _ => false
end
mutual
theorem same_eq : ∀ (a b : D), same a b = true → a = b
  | .non, b, h => by cases b <;> first | rfl | cases h
  | .bl a, b, h => by cases b <;> first | (simp only [same, decide_eq_true_eq] at h; rw [h]) | cases h
  | .int a, b, h => by cases b <;> first | (simp only [same, decide_eq_true_eq] at h; rw [h]) | cases h
  | .str a, b, h => by cases b <;> first | (simp only [same, decide_eq_true_eq] at h; rw [h]) | cases h
  | .tup a, b, h => by cases b <;> first | (simp only [same] at h; rw [sames_eq a _ h]) | cases h
  | .lst a, b, h => by cases b <;> first | (simp only [same] at h; rw [sames_eq a _ h]) | cases h
  | .scr a, b, h => by cases b <;> first | (simp only [same] at h; rw [sames_eq a _ h]) | cases h
  | .dic t a c, b, h => by cases b <;> first | (simp only [same, Bool.and_eq_true, decide_eq_true_eq] at h; rw [h.1, sames_eq a _ h.2.1, sames_eq c _ h.2.2]) | cases h
  | .fn a, b, h => by cases b <;> first | (simp only [same, decide_eq_true_eq] at h; rw [h]) | cases h
  | .exv c n v, b, h => by cases b <;> first | (simp only [same, Bool.and_eq_true, decide_eq_true_eq] at h; obtain ⟨⟨h1, h2⟩, h3⟩ := h; rw [h1, h2, sames_eq v _ h3]) | cases h
  | .obj c n v, b, h => by cases b <;> first | (simp only [same, Bool.and_eq_true, decide_eq_true_eq] at h; obtain ⟨⟨h1, h2⟩, h3⟩ := h; rw [h1, h2, sames_eq v _ h3]) | cases h
theorem sames_eq : ∀ (a b : List D), sames a b = true → a = b
  | [], b, h => by cases b <;> first | rfl | cases h
  | x :: xs, b, h => by
    cases b with
    | nil => cases h
    | cons y ys =>
      simp only [sames, Bool.and_eq_true] at h
      rw [same_eq x y h.1, sames_eq xs ys h.2]
end
/-- the result is that value -/
def isOk (r : R D) (d : D) : Bool := match r with
  | .ok x => same x d
  | _ => false
theorem isOk_eq {r : R D} {d : D} (h : isOk r d = true) : r = .ok d := by
  cases r with
  | ok x => rw [same_eq x d h]
  | err _ _ => cases h
  | bad => cases h
theorem all2 {n m : Nat} {f : Nat → Nat → Bool} (h : ((List.range n).all fun i => (List.range m).all fun j => f i j) = true) {i j : Nat} (hi : i < n) (hj : j < m) : f i j = true :=
  List.all_eq_true.mp (List.all_eq_true.mp h i (List.mem_range.mpr hi)) j (List.mem_range.mpr hj)
theorem all1 {n : Nat} {f : Nat → Bool} (h : ((List.range n).all f) = true) {i : Nat} (hi : i < n) : f i = true := List.all_eq_true.mp h i (List.mem_range.mpr hi)
theorem atI_of {l : List D} {i : Nat} {d : D} (h : l[i]? = some d) : atI l (i : Int) = some d := by
  have hl := (List.getElem?_eq_some_iff.mp h).1
  unfold atI L2.ixN
  rw [if_pos (by omega), if_pos (by omega)]
  simpa using h
theorem atI_nat {l : List D} {i : Int} {d : D} (h0 : 0 ≤ i) (h : l[i.toNat]? = some d) : atI l i = some d := by
  have := atI_of (i := i.toNat) h
  rwa [Int.toNat_of_nonneg h0] at this
/-- an item of the drawn numbers -/
theorem drawn_at {n : Nat} {xs : List Int} (h : Drawn1 n xs) {i : Int} (h0 : 0 ≤ i) (h1 : i.toNat < n) : ∃ x, atI (xs.map D.int) i = some (.int x) ∧ 0 ≤ x ∧ x < 1009 := by
  have hl : i.toNat < xs.length := by rw [h.1]; exact h1
  refine ⟨xs[i.toNat], atI_nat h0 (by rw [List.getElem?_map, List.getElem?_eq_getElem hl]; rfl), h.2 _ (List.getElem_mem hl)⟩
mutual
theorem beq_good : ∀ (n : Nat) (d : D), good n d = true → beq d d = true
  | _, .non, _ => rfl
  | _, .bl b, _ => by simp [beq]
  | _, .int i, _ => by simp [beq]
  | _, .str s, _ => by simp [beq]
  | 0, .tup _, h => by simp [good] at h
  | 0, .lst _, h => by simp [good] at h
  | n + 1, .tup l, h => by
    simp only [good] at h
    simp only [beq]
    exact beqs_good n l h
  | n + 1, .lst l, h => by
    simp only [good] at h
    simp only [beq]
    exact beqs_good n l h
  | _, .dic _ _ _, h => by simp [good] at h
  | _, .scr _, h => by simp [good] at h
  | _, .obj _ _ _, h => by simp [good] at h
  | _, .exv _ _ _, h => by simp [good] at h
  | _, .fn _, h => by simp [good] at h
theorem beqs_good : ∀ (n : Nat) (l : List D), goods n l = true → beqs l l = true
  | _, [], _ => rfl
  | n, x :: xs, h => by
    simp only [goods, Bool.and_eq_true] at h
    simp only [beqs, beq_good n x h.1, beqs_good n xs h.2, Bool.and_self]
end
theorem eq_same {d : D} (h : good 60 d = true) : cmpD .eq d d = .ok true := by
  show eqD d d = _
  unfold eqD
  rw [h, beq_good 60 d h]
  rfl
theorem ne_same {d : D} (h : good 60 d = true) : cmpD .ne d d = .ok false := by
  show (eqD d d).bind _ = _
  unfold eqD
  rw [h, beq_good 60 d h]
  rfl
mutual
theorem good_up : ∀ (n : Nat) (d : D), good n d = true → good (n + 1) d = true
  | _, .non, _ => rfl
  | _, .bl b, _ => rfl
  | _, .int i, _ => rfl
  | _, .str s, h => by simpa only [good] using h
  | 0, .tup _, h => by simp [good] at h
  | 0, .lst _, h => by simp [good] at h
  | n + 1, .tup l, h => by
    simp only [good] at h ⊢
    exact goods_up n l h
  | n + 1, .lst l, h => by
    simp only [good] at h ⊢
    exact goods_up n l h
  | _, .dic _ _ _, h => by simp [good] at h
  | _, .scr _, h => by simp [good] at h
  | _, .obj _ _ _, h => by simp [good] at h
  | _, .exv _ _ _, h => by simp [good] at h
  | _, .fn _, h => by simp [good] at h
theorem goods_up : ∀ (n : Nat) (l : List D), goods n l = true → goods (n + 1) l = true
  | _, [], _ => rfl
  | n, x :: xs, h => by
    simp only [goods, Bool.and_eq_true] at h ⊢
    exact ⟨good_up n x h.1, goods_up n xs h.2⟩
end
end M
set_option Elab.async false
set_option linter.all false
set_option maxRecDepth 100000
set_option maxHeartbeats 4000000
/-! M: states by what stands at their slots. -/
namespace M
open PySem L2
def notPar : Sl → Bool
  | .par _ => false
  | _ => true
def plS : Sl → Bool
  | .par _ => false
  | .exc _ _ _ => false
  | _ => true
/-- nothing handed in to be changed, no exception at hand -/
def Pl (st : ES) : Prop := st.all plS = true
def Np (st : ES) : Prop := st.all notPar = true
theorem pl_set {st : ES} {i : Nat} {s : Sl} (h : Pl st) (hs : plS s = true) : Pl (st.set i s) := by
  unfold Pl at *
  rw [List.all_eq_true] at *
  intro x hx
  rcases List.mem_or_eq_of_mem_set hx with h1 | rfl
  · exact h x h1
  · exact hs
theorem np_set {st : ES} {i : Nat} {s : Sl} (h : Np st) (hs : notPar s = true) : Np (st.set i s) := by
  unfold Np at *
  rw [List.all_eq_true] at *
  intro x hx
  rcases List.mem_or_eq_of_mem_set hx with h1 | rfl
  · exact h x h1
  · exact hs
theorem pl_at {st : ES} {i : Nat} {s : Sl} (h : Pl st) (e : st[i]? = some s) : plS s = true := List.all_eq_true.mp h s (List.mem_of_getElem? e)
theorem np_at {st : ES} {i : Nat} {s : Sl} (h : Np st) (e : st[i]? = some s) : notPar s = true := List.all_eq_true.mp h s (List.mem_of_getElem? e)
theorem pl_of {st : ES} (h : Np st) (h' : st.all (fun s => !isExc s) = true) : Pl st := by
  unfold Pl
  rw [List.all_eq_true]
  intro s hs
  have h1 := List.all_eq_true.mp h s hs
  have h2 := List.all_eq_true.mp h' s hs
  cases s <;> first | rfl | cases (show false = true from h1) | cases (show false = true from h2)
theorem np_of {st : ES} (h : Pl st) : Np st := by
  unfold Np
  rw [List.all_eq_true]
  intro s hs
  have h1 := List.all_eq_true.mp h s hs
  cases s <;> first | rfl | cases h1
/-- st' is st but for the slots U -/
structure Fm (U : List Nat) (st st' : ES) : Prop where
  len : st'.length = st.length
  same : ∀ j, j ∉ U → st'[j]? = st[j]?
  pl : Pl st → Pl st'
  np : Np st → Np st'
theorem Fm.refl (U : List Nat) (st : ES) : Fm U st st := ⟨rfl, fun _ _ => rfl, id, id⟩
theorem Fm.up {U N : List Nat} {st st' : ES} (h : Fm U st st') (hs : ∀ j ∈ U, j ∈ N) : Fm N st st' := ⟨h.len, fun j hj => h.same j fun z => hj (hs j z), h.pl, h.np⟩
theorem Fm.trans {U : List Nat} {a b c : ES} (h : Fm U a b) (k : Fm U b c) : Fm U a c := ⟨k.len.trans h.len, fun j hj => (k.same j hj).trans (h.same j hj), fun z => k.pl (h.pl z), fun z => k.np (h.np z)⟩
theorem Fm.set {U : List Nat} {st : ES} {i : Nat} {s : Sl} (hi : i ∈ U) (hs : plS s = true) : Fm U st (st.set i s) :=
  ⟨List.length_set, fun j hj => List.getElem?_set_ne (fun z => hj (by rw [← z]; exact hi)), fun h => pl_set h hs, fun h => np_set h (by cases s <;> first | rfl | cases hs)⟩
theorem Fm.setv {U : List Nat} {st st' : ES} {i : Nat} {s : Sl} (hi : i ∈ U) (hs : plS s = true) (e : setv st i s = .ok st') : Fm U st st' := by
  obtain ⟨rfl, _⟩ := setv_inv e
  exact Fm.set hi hs
theorem Fm.setAll {U : List Nat} : ∀ {is : List Nat} {ds : List D} {st st' : ES}, (∀ i ∈ is, i ∈ U) → setAll is ds st = .ok st' → Fm U st st'
  | [], [], _, _, _, e => by cases e; exact Fm.refl _ _
  | [], _ :: _, _, _, _, e => by cases e
  | _ :: _, [], _, _, _, e => by cases e
  | i :: is, d :: ds, st, st', hm, e => by
    unfold _root_.M.setAll at e
    cases h : _root_.M.setv st i (.val d) with
    | ok st1 =>
      rw [h] at e
      exact (Fm.setv (hm i List.mem_cons_self) rfl h).trans (Fm.setAll (fun j hj => hm j (List.mem_cons_of_mem _ hj)) e)
    | err _ _ => rw [h] at e; cases e
    | bad => rw [h] at e; cases e
theorem Fm.bindP {U : List Nat} {p : Pat} {d : D} {st st' : ES} (hm : ∀ i ∈ p.slots, i ∈ U) (e : bindP p d st = .ok st') : Fm U st st' := by
  unfold _root_.M.bindP at e
  split at e
  · exact Fm.setv (hm _ (by simp [Pat.slots])) rfl e
  · exact Fm.setAll hm e
  · exact Fm.setAll hm e
  · cases e
theorem Fm.putO {U : List Nat} {st : ES} {i : Nat} {d : D} (hi : i ∈ U) : Fm U st (putO st i d) := by
  unfold _root_.M.putO
  split
  · exact Fm.set hi rfl
  · rename_i x e
    exact ⟨List.length_set, fun j hj => List.getElem?_set_ne (fun z => hj (by rw [← z]; exact hi)), fun h => (by have := pl_at h e; cases this), fun h => (by have := np_at h e; cases this)⟩
  · exact Fm.refl _ _
theorem Fm.wrO {U : List Nat} : ∀ {ps : List (Nat × Nat)} {nd : List D} {st st' : ES}, (∀ p ∈ ps, p.2 ∈ U) → wrO ps nd st = some st' → Fm U st st'
  | [], _, _, _, _, e => by cases e; exact Fm.refl _ _
  | (k, i) :: ps, nd, st, st', hm, e => by
    unfold _root_.M.wrO at e
    split at e
    · exact (Fm.putO (hm (k, i) List.mem_cons_self)).trans (Fm.wrO (fun p hp => hm p (List.mem_cons_of_mem _ hp)) e)
    · cases e
/-- at each end -/
def FmF (U : List Nat) (st : ES) : Fl → Prop
  | .nx s => Fm U st s
  | .rt _ s => Fm U st s
  | .bk s => Fm U st s
  | .ct s => Fm U st s
  | .er _ _ s => Fm U st s
  | .no => True
theorem FmF.up {U N : List Nat} {st : ES} {r : Fl} (h : FmF U st r) (hs : ∀ j ∈ U, j ∈ N) : FmF N st r := by
  cases r <;> first | exact Fm.up h hs | trivial
theorem FmF.pre {U : List Nat} {st st1 : ES} {r : Fl} (h : Fm U st st1) (k : FmF U st1 r) : FmF U st r := by
  cases r <;> first | exact h.trans k | trivial
theorem FmF.bind {α : Type} {U : List Nat} {st : ES} {r : R α} {k : α → Fl} (h : ∀ a, r = .ok a → FmF U st (k a)) : FmF U st (bindF r st k) := by
  cases r with
  | ok a => exact h a rfl
  | err _ _ => exact Fm.refl _ _
  | bad => trivial
theorem FmF.nxR {U : List Nat} {st : ES} {r : R ES} (h : ∀ s, r = .ok s → Fm U st s) : FmF U st (nxR r) := by
  cases r with
  | ok s => exact h s rfl
  | err _ _ => trivial
  | bad => trivial
theorem FmF.for_ {U : List Nat} {bind : D → ES → R ES} {body : ES → Fl} (hb : ∀ x st st1, bind x st = .ok st1 → Fm U st st1) (hs : ∀ st, FmF U st (body st)) : ∀ (l : List D) (st : ES), FmF U st (forRun bind body l st)
  | [], st => Fm.refl _ _
  | x :: l, st => by
    unfold forRun
    cases e : bind x st with
    | err _ _ => trivial
    | bad => trivial
    | ok st1 =>
      have h1 := hb x st st1 e
      have h2 := hs st1
      simp only
      cases e2 : body st1 with
      | nx s => rw [e2] at h2; exact (FmF.for_ hb hs l s).pre (h1.trans h2)
      | ct s => rw [e2] at h2; exact (FmF.for_ hb hs l s).pre (h1.trans h2)
      | bk s => rw [e2] at h2; exact h1.trans h2
      | rt d s => rw [e2] at h2; exact h1.trans h2
      | er c p s => rw [e2] at h2; exact h1.trans h2
      | no => trivial
theorem FmF.wh {U : List Nat} {test : ES → R Bool} {body : ES → Fl} (hs : ∀ st, FmF U st (body st)) : ∀ (n : Nat) (st : ES), FmF U st (whRun test body n st)
  | 0, st => trivial
  | n + 1, st => by
    unfold whRun
    refine FmF.bind fun b _ => ?_
    split
    · have h2 := hs st
      cases e2 : body st with
      | nx s => rw [e2] at h2; exact (FmF.wh hs n s).pre h2
      | ct s => rw [e2] at h2; exact (FmF.wh hs n s).pre h2
      | bk s => rw [e2] at h2; exact h2
      | rt d s => rw [e2] at h2; exact h2
      | er c p s => rw [e2] at h2; exact h2
      | no => trivial
    · exact Fm.refl _ _
mutual
def modS : IS → List Nat
  | .asg p _ => p.slots
  | .own i _ => [i]
  | .par i j _ _ => [i, j]
  | .par3 i j k _ _ _ => [i, j, k]
  | .aug i _ _ => [i]
  | .app i _ => [i]
  | .ext i _ => [i]
  | .seti i _ _ => [i]
  | .setf i _ _ _ => [i]
  | .pop0 t j => [t, j]
  | .popI t j _ => [t, j]
  | .pop0d j => [j]
  | .popId j _ => [j]
  | .ife _ t f => modSs t ++ modSs f
  | .for_ p _ b => p.slots ++ modSs b
  | .while_ _ b => modSs b
  | .try_ _ b h => modSs b ++ modH h
  | .frz i => [i]
  | .cal _ _ ps _ => ps.map (·.2)
  | .calO _ _ i j _ => [i, j]
  | _ => []
def modSs : ISs → List Nat
  | .nil => []
  | .cons a r => modS a ++ modSs r
def modH : IHs → List Nat
  | .nil => []
  | .cons _ _ i b r => i.toList ++ (modSs b ++ modH r)
end
theorem app_l {a b : List Nat} : ∀ j ∈ a, j ∈ a ++ b := fun _ h => List.mem_append_left _ h
theorem app_r {a b : List Nat} : ∀ j ∈ b, j ∈ a ++ b := fun _ h => List.mem_append_right _ h
theorem FmF.out {U : List Nat} {st0 st1 : ES} {r : Fl} {i : Option Nat} (hi : ∀ j ∈ i.toList, j ∈ U) (h01 : st1.length = st0.length ∧ (∀ j, j ∉ U → st1[j]? = st0[j]?) ∧ (Np st0 → Np st1)) (h : FmF U st1 r) : FmF U st0 (outF r i) := by
  have key : ∀ s, Fm U st1 s → (unO s i).all (fun s => !isExc s) = true → Fm U st0 (unO s i) := fun s hs ha => by
    have hu : Fm U s (unO s i) := by
      cases i with
      | none => exact Fm.refl _ _
      | some j => exact Fm.set (hi j (by simp)) rfl
    have h2 := hs.trans hu
    exact ⟨h2.len.trans h01.1, fun j hj => (h2.same j hj).trans (h01.2.1 j hj), fun hp => pl_of (h2.np (h01.2.2 (np_of hp))) ha, fun hp => h2.np (h01.2.2 hp)⟩
  unfold outF
  cases r with
  | nx s => by_cases q : (unO s i).all (fun s => !isExc s) = true
            · simp only [q, if_true]; exact key s h q
            · simp only [q]; trivial
  | bk s => by_cases q : (unO s i).all (fun s => !isExc s) = true
            · simp only [q, if_true]; exact key s h q
            · simp only [q]; trivial
  | ct s => by_cases q : (unO s i).all (fun s => !isExc s) = true
            · simp only [q, if_true]; exact key s h q
            · simp only [q]; trivial
  | rt d s => by_cases q : (unO s i).all (fun s => !isExc s) = true
              · simp only [q, if_true]; exact key s h q
              · simp only [q]; trivial
  | er _ _ _ => trivial
  | no => trivial
theorem mem1 {i : Nat} : i ∈ [i] := List.mem_cons_self
theorem mem21 {i j : Nat} : i ∈ [i, j] := List.mem_cons_self
theorem mem22 {i j : Nat} : j ∈ [i, j] := List.mem_cons_of_mem _ List.mem_cons_self
mutual
theorem evS_frame (fu : Nat) : ∀ (a : IS) (st : ES), FmF (modS a) st (evS fu a st)
  | .asg p e, st => by
    simp only [evS, modS]
    exact FmF.bind fun d _ => FmF.nxR fun s h => Fm.bindP (fun _ h => h) h
  | .own i e, st => by
    simp only [evS, modS]
    refine FmF.bind fun d _ => ?_
    split
    · exact FmF.nxR fun s h => Fm.setv mem1 rfl h
    · trivial
  | .par i j a b, st => by
    simp only [evS, modS]
    refine FmF.bind fun ds _ => ?_
    split
    · refine FmF.nxR fun s h => ?_
      rename_i x y _
      cases q : setv st i (.val x) with
      | ok s1 => rw [q] at h; exact (Fm.setv mem21 rfl q).trans (Fm.setv mem22 rfl h)
      | err _ _ => rw [q] at h; cases h
      | bad => rw [q] at h; cases h
    · trivial
  | .par3 i j k a b c, st => by
    simp only [evS, modS]
    refine FmF.bind fun ds _ => ?_
    split
    · refine FmF.nxR fun s h => ?_
      rename_i x y z _
      cases q : setv st i (.val x) with
      | ok s1 =>
        rw [q] at h
        have h : (setv s1 j (.val y)).bind (fun s => setv s k (.val z)) = .ok s := h
        cases q2 : setv s1 j (.val y) with
        | ok s2 => rw [q2] at h; exact ((Fm.setv (by simp) rfl q).trans (Fm.setv (by simp) rfl q2)).trans (Fm.setv (by simp) rfl h)
        | err _ _ => rw [q2] at h; cases h
        | bad => rw [q2] at h; cases h
      | err _ _ => rw [q] at h; cases h
      | bad => rw [q] at h; cases h
    · trivial
  | .aug i op e, st => by
    simp only [evS, modS]
    split
    · refine FmF.bind fun d _ => ?_
      unfold augF
      split
      · split
        · exact FmF.nxR fun s h => Fm.setv mem1 rfl h
        · exact FmF.nxR fun s h => Fm.setv mem1 rfl h
        · trivial
      · trivial
    · trivial
  | .app i e, st => by
    simp only [evS, modS]
    split
    · refine FmF.bind fun d _ => ?_
      split
      · exact Fm.putO mem1
      · trivial
    · trivial
  | .ext i e, st => by
    simp only [evS, modS]
    split
    · refine FmF.bind fun d _ => ?_
      split
      · split
        · exact Fm.putO mem1
        · trivial
      · trivial
    · trivial
  | .seti i k e, st => by
    simp only [evS, modS]
    split
    · refine FmF.bind fun d _ => FmF.bind fun x _ => ?_
      split
      · split
        · exact Fm.putO mem1
        · trivial
      · trivial
    · refine FmF.bind fun d _ => FmF.bind fun x _ => ?_
      split
      · exact Fm.putO mem1
      · trivial
    · trivial
  | .setf i c f e, st => by
    simp only [evS, modS]
    split
    · refine FmF.bind fun d _ => ?_
      split
      · exact Fm.putO mem1
      · trivial
    · trivial
  | .pop0 t j, st => by
    simp only [evS, modS]
    split
    · split
      · exact FmF.nxR fun s h => (Fm.putO mem22).trans (Fm.setv mem21 rfl h)
      · trivial
    · trivial
  | .popI t j k, st => by
    simp only [evS, modS]
    split
    · refine FmF.bind fun x _ => ?_
      split
      · split
        · split
          · split
            · exact FmF.nxR fun s h => (Fm.putO mem22).trans (Fm.setv mem21 rfl h)
            · trivial
          · trivial
        · trivial
      · trivial
    · trivial
  | .pop0d j, st => by
    simp only [evS, modS]
    split
    · split
      · exact Fm.putO mem1
      · trivial
    · trivial
  | .popId j k, st => by
    simp only [evS, modS]
    split
    · refine FmF.bind fun x _ => ?_
      split
      · exact Fm.putO mem1
      · trivial
    · refine FmF.bind fun x _ => ?_
      split
      · split
        · split
          · split
            · exact Fm.putO mem1
            · trivial
          · trivial
        · trivial
      · trivial
    · trivial
  | .drop e, st => by
    simp only [evS, modS]
    exact FmF.bind fun d _ => Fm.refl _ _
  | .ret e, st => by
    simp only [evS, modS]
    exact FmF.bind fun d _ => Fm.refl _ _
  | .retN, st => Fm.refl _ _
  | .pass, st => Fm.refl _ _
  | .brk, st => Fm.refl _ _
  | .cont, st => Fm.refl _ _
  | .ife c t f, st => by
    simp only [evS, modS]
    refine FmF.bind fun b _ => ?_
    split
    · exact (evSs_frame fu t st).up app_l
    · exact (evSs_frame fu f st).up app_r
  | .for_ p it b, st => by
    simp only [evS, modS]
    exact FmF.bind fun l _ => FmF.for_ (fun x st st1 h => Fm.bindP app_l h) (fun st => (evSs_frame fu b st).up app_r) l st
  | .while_ c b, st => by
    simp only [evS, modS]
    exact FmF.wh (fun st => evSs_frame fu b st) fu st
  | .try_ ks b h, st => by
    have hb := (evSs_frame fu b st).up (N := modSs b ++ modH h) app_l
    simp only [evS, modS]
    cases e : evSs fu b st with
    | er c p s =>
      rw [e] at hb
      simp only
      split
      · exact ((evH_frame fu h c p s).up app_r).pre hb
      · trivial
    | nx s => rw [e] at hb; exact hb
    | rt d s => rw [e] at hb; exact hb
    | bk s => rw [e] at hb; exact hb
    | ct s => rw [e] at hb; exact hb
    | no => trivial
  | .dead, st => trivial
  | .raise0 c, st => Fm.refl _ _
  | .raise1 c f e, st => by
    simp only [evS, modS]
    exact FmF.bind fun d _ => Fm.refl _ _
  | .cal n F ps l, st => by
    simp only [evS, modS]
    refine FmF.bind fun ds _ => ?_
    split
    · split
      · rename_i e
        exact Fm.wrO (fun p hp => List.mem_map_of_mem hp) e
      · trivial
    · trivial
  | .calO n F i j l, st => by
    simp only [evS, modS]
    refine FmF.bind fun ds _ => ?_
    split
    · split
      · refine FmF.nxR fun s h => ?_
        rename_i x y _
        cases q : setv st i (.own x) with
        | ok s1 => rw [q] at h; exact (Fm.setv mem21 rfl q).trans (Fm.setv mem22 rfl h)
        | err _ _ => rw [q] at h; cases h
        | bad => rw [q] at h; cases h
      · trivial
    · trivial
  | .frz i, st => by
    simp only [evS, modS]
    split
    · exact Fm.set mem1 rfl
    · exact Fm.refl _ _
    · trivial
theorem evSs_frame (fu : Nat) : ∀ (a : ISs) (st : ES), FmF (modSs a) st (evSs fu a st)
  | .nil, st => Fm.refl _ _
  | .cons a r, st => by
    have h1 := (evS_frame fu a st).up (N := modS a ++ modSs r) app_l
    simp only [evSs, modSs]
    cases e : evS fu a st with
    | nx s => rw [e] at h1; exact ((evSs_frame fu r s).up app_r).pre h1
    | er c p s => rw [e] at h1; exact h1
    | rt d s => rw [e] at h1; exact h1
    | bk s => rw [e] at h1; exact h1
    | ct s => rw [e] at h1; exact h1
    | no => trivial
theorem evH_frame (fu : Nat) : ∀ (h : IHs) (c : Str) (p : Option (Str × D)) (st : ES), FmF (modH h) st (evH fu h c p st)
  | .nil, c, p, st => Fm.refl _ _
  | .cons _ sub i b r, c, p, st => by
    simp only [evH, modH]
    split
    · split
      · rename_i st1 e
        refine FmF.out (fun j hj => app_l j hj) ?_ ((evSs_frame fu b st1).up fun j hj => app_r _ (app_l _ hj))
        cases i with
        | none => cases e; exact ⟨rfl, fun _ _ => rfl, id⟩
        | some i =>
          have hm : i ∈ (some i).toList ++ (modSs b ++ modH r) := app_l _ (by simp)
          cases p with
          | none =>
            have := Fm.setv (U := (some i).toList ++ (modSs b ++ modH r)) hm rfl (show setv st i .un = .ok st1 from e)
            exact ⟨this.len, this.same, this.np⟩
          | some fd =>
            obtain ⟨f, d⟩ := fd
            obtain ⟨rfl, _⟩ := setv_inv (show setv st i (.exc c f d) = .ok st1 from e)
            exact ⟨List.length_set, fun j hj => List.getElem?_set_ne (fun z => hj (by rw [← z]; exact hm)), fun h => np_set h rfl⟩
      · trivial
    · exact (evH_frame fu r c p st).up fun j hj => app_r _ (app_r _ hj)
end
theorem Fm.of_nx {U : List Nat} {fu : Nat} {b : ISs} {st st' : ES} (e : evSs fu b st = .nx st') (hm : ∀ j ∈ modSs b, j ∈ U) : Fm U st st' := by
  have := evSs_frame fu b st
  rw [e] at this
  exact Fm.up this hm
/-- a slot that may be stored -/
theorem setv_pl {st : ES} {i : Nat} {s : Sl} (hp : Pl st) (hi : i < st.length) : setv st i s = .ok (st.set i s) := by
  unfold setv
  have e := List.getElem?_eq_getElem hi
  have hh := pl_at hp e
  rw [e]
  cases q : st[i] <;> rw [q] at hh <;> first | rfl | cases hh
theorem getv_at {st : ES} {i : Nat} {d : D} (h : st[i]? = some (.val d)) : getv st i = .ok d := by unfold getv; rw [h]
theorem getb_val' {st : ES} {i : Nat} {d : D} (h : st[i]? = some (.val d)) : getb st i = .ok d := by unfold getb; rw [h]
theorem getb_own {st : ES} {i : Nat} {d : D} (h : st[i]? = some (.own d)) : getb st i = .ok d := by unfold getb; rw [h]
theorem ownD_at {st : ES} {i : Nat} {d : D} (h : st[i]? = some (.own d)) : ownD st i = some d := by unfold ownD; rw [h]
theorem putO_at {st : ES} {i : Nat} {d d' : D} (h : st[i]? = some (.own d)) : putO st i d' = st.set i (.own d') := by unfold putO; rw [h]
theorem set_at {st : ES} {i : Nat} {s : Sl} (h : i < st.length) : (st.set i s)[i]? = some s := List.getElem?_set_self h
theorem set_ne {st : ES} {i j : Nat} {s : Sl} (h : i ≠ j) : (st.set i s)[j]? = st[j]? := List.getElem?_set_ne h
theorem set_len {st : ES} {i : Nat} {s : Sl} : (st.set i s).length = st.length := List.length_set
/-- a loop by a relation between what is told and the state -/
theorem for_rel {α σ : Type} {bind : D → ES → R ES} {body : ES → Fl} (enc : α → D) (R : Nat → σ → ES → Prop) (step : σ → α → σ) : ∀ (l : List α) (i : Nat) (s0 : σ) (st0 : ES), R i s0 st0 →
    (∀ j x, l[j]? = some x → ∀ s st, R (i + j) s st → ∃ st1 st2, bind (enc x) st = .ok st1 ∧ body st1 = .nx st2 ∧ R (i + j + 1) (step s x) st2) → ∃ st', forRun bind body (l.map enc) st0 = .nx st' ∧ R (i + l.length) (l.foldl step s0) st'
  | [], i, s0, st0, h, _ => ⟨st0, rfl, h⟩
  | x :: l, i, s0, st0, h, hs => by
    obtain ⟨st1, st2, e1, e2, h2⟩ := hs 0 x rfl s0 st0 h
    obtain ⟨st', e, h3⟩ := for_rel (bind := bind) (body := body) enc R step l (i + 1) (step s0 x) st2 h2 fun j y hy s st hr => by
      have := hs (j + 1) y hy s st (by rw [show i + (j + 1) = i + 1 + j by omega]; exact hr)
      rw [show i + (j + 1) + 1 = i + 1 + j + 1 by omega] at this
      exact this
    refine ⟨st', ?_, ?_⟩
    · rw [List.map_cons]
      unfold forRun
      rw [e1]
      simp only
      rw [e2]
      exact e
    · rw [List.length_cons, show i + (l.length + 1) = i + 1 + l.length by omega]
      exact h3
end M
namespace M
theorem pl_val {st : ES} {i : Nat} {d : D} (h : Pl st) : Pl (st.set i (.val d)) := pl_set h rfl
theorem pl_own {st : ES} {i : Nat} {d : D} (h : Pl st) : Pl (st.set i (.own d)) := pl_set h rfl
theorem pl_un {st : ES} {i : Nat} (h : Pl st) : Pl (st.set i .un) := pl_set h rfl
theorem pl_nil : Pl [] := rfl
theorem pl_cv {st : ES} {d : D} (h : Pl st) : Pl (.val d :: st) := h
theorem pl_co {st : ES} {d : D} (h : Pl st) : Pl (.own d :: st) := h
theorem pl_cu {st : ES} (h : Pl st) : Pl (.un :: st) := h
theorem cget0 {a : Sl} {l : ES} : (a :: l)[0]? = some a := rfl
theorem cget1 {a : Sl} {l : ES} {i : Nat} : (a :: l)[i + 1]? = l[i]? := rfl
end M
namespace M
open PySem L2
theorem for_hd {bind : D → ES → R ES} {body : ES → Fl} {x : D} {m : List D} {st st1 : ES} (e : bind x st = .ok st1) : forRun bind body (x :: m) st = (match body st1 with
      | .nx st2 => forRun bind body m st2
      | .ct st2 => forRun bind body m st2
      | .bk st2 => .nx st2
      | .rt d st2 => .rt d st2
      | .er c p st2 => .er c p st2
      | .no => .no) := by
  rw [forRun, e] <;> rfl
/-- a loop's first part -/
theorem for_relm {α σ : Type} {bind : D → ES → R ES} {body : ES → Fl} (enc : α → D) (R : Nat → σ → ES → Prop) (step : σ → α → σ) : ∀ (l : List α) (i : Nat) (s0 : σ) (st0 : ES), R i s0 st0 →
    (∀ j x, l[j]? = some x → ∀ s st, R (i + j) s st → ∃ st1 st2, bind (enc x) st = .ok st1 ∧ body st1 = .nx st2 ∧ R (i + j + 1) (step s x) st2) → ∃ st', (∀ m, forRun bind body (l.map enc ++ m) st0 = forRun bind body m st') ∧ R (i + l.length) (l.foldl step s0) st'
  | [], i, s0, st0, h, _ => ⟨st0, fun _ => rfl, h⟩
  | x :: l, i, s0, st0, h, hs => by
    obtain ⟨st1, st2, e1, e2, h2⟩ := hs 0 x rfl s0 st0 h
    obtain ⟨st', e, h3⟩ := for_relm (bind := bind) (body := body) enc R step l (i + 1) (step s0 x) st2 h2 fun j y hy s st hr => by
      have := hs (j + 1) y hy s st (by rw [show i + (j + 1) = i + 1 + j by omega]; exact hr)
      rw [show i + (j + 1) + 1 = i + 1 + j + 1 by omega] at this
      exact this
    refine ⟨st', fun m => ?_, ?_⟩
    · rw [List.map_cons, List.cons_append, for_hd e1, e2]
      exact e m
    · rw [List.length_cons, show i + (l.length + 1) = i + 1 + l.length by omega]
      exact h3
/-- a loop that looks for the first that fails -/
theorem for_test {bind : D → ES → R ES} {body : ES → Fl} {d0 : D} (R : Nat → ES → Prop) (p : Nat → Bool) : ∀ (l : List D) (i : Nat) (st0 : ES), R i st0 →
    (∀ j x, l[j]? = some x → ∀ st, R (i + j) st → ∃ st1, bind x st = .ok st1 ∧ (p (i + j) = true → ∃ st2, body st1 = .nx st2 ∧ R (i + j + 1) st2) ∧ (p (i + j) = false → ∃ st2, body st1 = .rt d0 st2)) →
    (((List.range l.length).all fun j => p (i + j)) = true → ∃ st', forRun bind body l st0 = .nx st' ∧ R (i + l.length) st') ∧ (((List.range l.length).all fun j => p (i + j)) = false → ∃ st', forRun bind body l st0 = .rt d0 st')
  | [], i, st0, h, _ => ⟨fun _ => ⟨st0, rfl, h⟩, fun e => by simp at e⟩
  | x :: l, i, st0, h, hs => by
    obtain ⟨st1, e1, h1, h2⟩ := hs 0 x rfl st0 h
    have hr : ((List.range (x :: l).length).all fun j => p (i + j)) = (p i && (List.range l.length).all fun j => p (i + 1 + j)) := by
      rw [List.length_cons, List.range_succ_eq_map, List.all_cons, List.all_map]
      congr 1
      refine List.all_congr rfl fun j => ?_
      show p (i + (j + 1)) = _
      congr 1
      omega
    rw [hr]
    have h1 : p i = true → ∃ st2, body st1 = .nx st2 ∧ R (i + 1) st2 := h1
    have h2 : p i = false → ∃ st2, body st1 = .rt d0 st2 := h2
    cases hp : p i with
    | false =>
      obtain ⟨st2, e2⟩ := h2 hp
      refine ⟨fun z => (by simp at z), fun _ => ⟨st2, ?_⟩⟩
      rw [for_hd e1, e2]
    | true =>
      obtain ⟨st2, e2, r2⟩ := h1 hp
      obtain ⟨g1, g2⟩ := for_test (bind := bind) (body := body) (d0 := d0) R p l (i + 1) st2 r2 fun j y hy st hr => by
        have := hs (j + 1) y hy st (by rw [show i + (j + 1) = i + 1 + j by omega]; exact hr)
        rw [show i + (j + 1) = i + 1 + j by omega] at this
        exact this
      have ef : forRun bind body (x :: l) st0 = forRun bind body l st2 := by rw [for_hd e1, e2]
      rw [ef, Bool.true_and]
      refine ⟨fun z => ?_, g2⟩
      obtain ⟨st', a, b⟩ := g1 z
      refine ⟨st', a, ?_⟩
      rw [List.length_cons, show i + (l.length + 1) = i + 1 + l.length by omega]
      exact b
end M
namespace M
open PySem L2
theorem rt_of {fu n : Nat} {body : ISs} {ds : List D} {st st' : ES} {d : D} (h0 : stF n [] ds = st) (h : evSs fu body st = .rt d st') : runD fu n body ds = .ok d := by
  unfold runD; rw [h0, h]
theorem nx_of {fu n : Nat} {body : ISs} {ds : List D} {st st' : ES} (h0 : stF n [] ds = st) (h : evSs fu body st = .nx st') : runD fu n body ds = .ok .non := by
  unfold runD; rw [h0, h]
theorem er_of {fu n : Nat} {body : ISs} {ds : List D} {st st' : ES} {c : Str} {p : Option (Str × D)} (h0 : stF n [] ds = st) (h : evSs fu body st = .er c p st') : runD fu n body ds = .err c p := by
  unfold runD; rw [h0, h]
/-- one statement after another -/
theorem seq_nx {fu : Nat} {a : IS} {r : ISs} {st st1 : ES} (e : evS fu a st = .nx st1) : evSs fu (.cons a r) st = evSs fu r st1 := by
  rw [evSs, e]; rfl
end M
namespace M
open PySem L2
/-- what stands at some slots -/
def At (st : ES) : List (Nat × Sl) → Prop
  | [] => True
  | p :: l => st[p.1]? = some p.2 ∧ At st l
theorem At.set {st : ES} {i : Nat} {s : Sl} : ∀ {l : List (Nat × Sl)}, At st l → i < st.length → l.all (fun p => p.1 != i) = true → At (st.set i s) ((i, s) :: l)
  | l, h, hi, hn => by
    refine ⟨List.getElem?_set_self hi, ?_⟩
    clear hi
    induction l with
    | nil => trivial
    | cons p l ih =>
      rw [List.all_cons, Bool.and_eq_true] at hn
      refine ⟨?_, ih h.2 hn.2⟩
      have : i ≠ p.1 := fun z => by
        have h1 := hn.1
        rw [← z] at h1
        simp at h1
      rw [List.getElem?_set_ne this]
      exact h.1
theorem At.fm {st st' : ES} {U : List Nat} (hF : Fm U st st') : ∀ {l : List (Nat × Sl)}, At st l → At st' (l.filter fun p => !U.contains p.1)
  | [], _ => trivial
  | p :: l, h => by
    rw [List.filter_cons]
    split
    · rename_i hp
      refine ⟨?_, At.fm hF h.2⟩
      rw [hF.same p.1 (fun z => by
        have : U.contains p.1 = true := List.contains_iff_mem.mpr z
        rw [this] at hp
        cases hp)]
      exact h.1
    · exact At.fm hF h.2
/-- what a state is known by -/
structure Sat (n : Nat) (l : List (Nat × Sl)) (st : ES) : Prop where
  pl : Pl st
  len : st.length = n
  at_ : At st l
theorem Sat.set {n : Nat} {l : List (Nat × Sl)} {st : ES} {i : Nat} {d : D} (h : Sat n l st) (hi : i < n) : Sat n ((i, .val d) :: l.filter fun p => p.1 != i) (st.set i (.val d)) := by
  have key : ∀ {l : List (Nat × Sl)}, At st l → At st (l.filter fun p => p.1 != i) := by
    intro l
    induction l with
    | nil => intro _; trivial
    | cons p l ih =>
      intro h
      rw [List.filter_cons]
      split
      · exact ⟨h.1, ih h.2⟩
      · exact ih h.2
  refine ⟨pl_val h.pl, by rw [List.length_set]; exact h.len, At.set (key h.at_) (by rw [h.len]; exact hi) ?_⟩
  rw [List.all_eq_true]
  intro p hp
  exact (List.mem_filter.mp hp).2
theorem Sat.seto {n : Nat} {l : List (Nat × Sl)} {st : ES} {i : Nat} {d : D} (h : Sat n l st) (hi : i < n) : Sat n ((i, .own d) :: l.filter fun p => p.1 != i) (st.set i (.own d)) := by
  have key : ∀ {l : List (Nat × Sl)}, At st l → At st (l.filter fun p => p.1 != i) := by
    intro l
    induction l with
    | nil => intro _; trivial
    | cons p l ih =>
      intro h
      rw [List.filter_cons]
      split
      · exact ⟨h.1, ih h.2⟩
      · exact ih h.2
  refine ⟨pl_own h.pl, by rw [List.length_set]; exact h.len, At.set (key h.at_) (by rw [h.len]; exact hi) ?_⟩
  rw [List.all_eq_true]
  intro p hp
  exact (List.mem_filter.mp hp).2
theorem Sat.fm {n : Nat} {l : List (Nat × Sl)} {st st' : ES} {U : List Nat} (h : Sat n l st) (hF : Fm U st st') : Sat n (l.filter fun p => !U.contains p.1) st' := ⟨hF.pl h.pl, hF.len.trans h.len, At.fm hF h.at_⟩
theorem Sat.add {n : Nat} {l : List (Nat × Sl)} {st : ES} {i : Nat} {s : Sl} (h : Sat n l st) (e : st[i]? = some s) : Sat n ((i, s) :: l) st := ⟨h.pl, h.len, e, h.at_⟩
theorem asg_nx {fu n : Nat} {l : List (Nat × Sl)} {st : ES} {i : Nat} {e : IE} {d : D} (h : Sat n l st) (hE : evE e st = .ok d) (hi : i < n) : evS fu (.asg (.n i) e) st = .nx (st.set i (.val d)) := by
  rw [evS, hE]
  show nxR (setv st i _) = _
  rw [setv_pl h.pl (by rw [h.len]; exact hi)]
  rfl
theorem own_nx {fu n : Nat} {l : List (Nat × Sl)} {st : ES} {i : Nat} {e : IE} {d : D} (h : Sat n l st) (hE : evE e st = .ok d) (hf : frE e d = true) (hi : i < n) : evS fu (.own i e) st = .nx (st.set i (.own d)) := by
  rw [evS, hE]
  show (if frE e d = true then nxR (setv st i (.own d)) else .no) = _
  rw [if_pos hf, setv_pl h.pl (by rw [h.len]; exact hi)]
  rfl
theorem ife_f {fu : Nat} {c : IQ} {t : ISs} {st : ES} (h : evT c st = .ok false) : evS fu (.ife c t .nil) st = .nx st := by
  rw [evS, h]; rfl
theorem lc_ok {p : Pat} {own : List (Str × Nat)} {it : IT} {c : IQs} {e : IE} {st : ES} {l ds : List D} (hI : evI it st = .ok l) (hl : l.length ≤ LIM) (h : lcRun (fun x => bindP p x (wipeS st (own.map (·.2)))) (fun s => evC c s) (fun s => evE e s) l = .ok ds) : evE (.lc p own it c e) st = .ok (.lst ds) := by
  rw [evE, hI]
  show noErr ((lcRun _ _ _ _).bind _) = _
  rw [h]
  show noErr (if l.length ≤ LIM then R.ok (D.lst ds) else R.bad) = _
  rw [if_pos hl]
  rfl
end M
set_option Elab.async false
set_option linter.all false
set_option maxRecDepth 100000
set_option maxHeartbeats 4000000
/-! The defs of the text in the small language. -/
namespace K47
open PySem L2 M
def top (i : Nat) : Stmt := PySem.Challenge.pw_starward_k47_what_commands_reach.main.body.getD i (.Pass ⟨0, 0, 0, 0⟩)
def c_MOST_STARS : M.D := .int 20
/-- _law_row -/
abbrev s__law_row : Stmt := top 30
def N__law_row : List Str := ["_law_cell", "_law_many", "_law_row_here", "_law_rest", "_law_state", "_law_k"]
def P__law_row : List Str := ["_law_cell", "_law_many"]
def b0__law_row : ISs := (.cons (.asg (.n 4) (.bin .mod (.b1 .int (.bin .add (.bin .mul (.bin .add (.var 4) (.int 1)) (.int 48271)) (.bin .mul (.int 69621) (.var 5)))) (.int 2147483647))) (.cons (.ife (.v (.cmp .gt (.var 3) (.int 0))) (.cons (.app 2 (.bin .mod (.b1 .int (.var 3)) (.int 1009))) (.cons (.asg (.n 3) (.bin .fdiv (.var 3) (.int 1009))) .nil)) (.cons (.app 2 (.bin .mod (.b1 .int (.bin .fdiv (.var 4) (.int 2048))) (.int 1009))) .nil)) .nil))
def ir__law_row : ISs := (.cons (.own 2 (.lst .nil)) (.cons (.asg (.n 3) (.int 0)) (.cons (.ife (.v (.cmp .ge (.b1 .abs (.var 0)) (.bin .pow (.int 10) (.int 18)))) (.cons (.asg (.n 3) (.b1 .abs (.var 0))) .nil) .nil) (.cons (.asg (.n 4) (.bin .mod (.b1 .int (.b1 .abs (.var 0))) (.int 2147483647))) (.cons (.for_ (.n 5) (.r1 (.var 1)) b0__law_row) (.cons (.frz 2) (.cons (.ret (.var 2)) .nil)))))))
theorem ok__law_row : okFn N__law_row P__law_row ir__law_row s__law_row = true := by decide +kernel
def F__law_row (ds : List M.D) : R M.D := runD 100000 6 ir__law_row ds
/-- _law_numbers -/
abbrev s__law_numbers : Stmt := top 31
def N__law_numbers : List Str := ["_law_script", "_law_many", "_law_cells", "_law_each", "_law_numbers_here", "_law_cell", "_law_number"]
def P__law_numbers : List Str := ["_law_script", "_law_many"]
def b0__law_numbers : ISs := (.cons (.app 4 (.var 6)) .nil)
def b1__law_numbers : ISs := (.cons (.for_ (.n 6) (.seq (.call "_law_row" F__law_row (.cons (.var 5) (.cons (.var 3) .nil)))) b0__law_numbers) .nil)
def t2__law_numbers : IQ := (.v (.cmp .lt (.b1 .len (.bor 4)) (.var 1)))
def b3__law_numbers : ISs := (.cons (.app 4 (.int 0)) .nil)
def ir__law_numbers : ISs := (.cons (.asg (.n 2) (.slc (.var 0) .no (.some (.int 63)))) (.cons (.asg (.n 3) (.bin .add (.int 1) (.bin .fdiv (.var 1) (.b2 .max (.int 1) (.b1 .len (.var 2)))))) (.cons (.own 4 (.lst .nil)) (.cons (.for_ (.n 5) (.seq (.var 2)) b1__law_numbers) (.cons (.while_ t2__law_numbers b3__law_numbers) (.cons (.ret (.slc (.bor 4) .no (.some (.var 1)))) .nil))))))
theorem ok__law_numbers : okFn N__law_numbers P__law_numbers ir__law_numbers s__law_numbers = true := by decide +kernel
def F__law_numbers (ds : List M.D) : R M.D := runD 100000 7 ir__law_numbers ds
/-- _law_motion -/
abbrev s__law_motion : Stmt := top 34
def N__law_motion : List Str := ["_law_parts", "_law_numbers_here", "_law_at"]
def P__law_motion : List Str := ["_law_parts", "_law_numbers_here", "_law_at"]
def ir__law_motion : ISs := (.cons (.ret (.tup (.cons (.bin .mod (.b1 .int (.idx (.var 1) (.var 2))) (.idx (.var 0) (.int 0))) (.cons (.bin .mod (.b1 .int (.idx (.var 1) (.bin .add (.var 2) (.int 1)))) (.idx (.var 0) (.int 0))) (.cons (.bin .mod (.b1 .int (.idx (.var 1) (.bin .add (.var 2) (.int 2)))) (.int 4)) .nil))))) .nil)
theorem ok__law_motion : okFn N__law_motion P__law_motion ir__law_motion s__law_motion = true := by decide +kernel
def F__law_motion (ds : List M.D) : R M.D := runD 100000 3 ir__law_motion ds
/-- _law_turned -/
abbrev s__law_turned : Stmt := top 32
def N__law_turned : List Str := ["_law_quarters", "_law_x", "_law_y", "_law_turn"]
def P__law_turned : List Str := ["_law_quarters", "_law_x", "_law_y"]
def b0__law_turned : ISs := (.cons (.par 1 2 (.bin .sub (.int 0) (.var 2)) (.var 1)) .nil)
def ir__law_turned : ISs := (.cons (.for_ (.n 3) (.r1 (.bin .mod (.b1 .int (.var 0)) (.int 4))) b0__law_turned) (.cons (.ret (.tup (.cons (.var 1) (.cons (.var 2) .nil)))) .nil))
theorem ok__law_turned : okFn N__law_turned P__law_turned ir__law_turned s__law_turned = true := by decide +kernel
def F__law_turned (ds : List M.D) : R M.D := runD 100000 4 ir__law_turned ds
/-- _law_star -/
abbrev s__law_star : Stmt := top 35
def N__law_star : List Str := ["_law_parts", "_law_star_here", "_law_motion_here", "_law_x", "_law_y"]
def P__law_star : List Str := ["_law_parts", "_law_star_here", "_law_motion_here"]
def ir__law_star : ISs := (.cons (.asg (.t [3, 4]) (.call "_law_turned" F__law_turned (.cons (.idx (.var 2) (.int 2)) (.cons (.idx (.var 1) (.int 0)) (.cons (.idx (.var 1) (.int 1)) .nil))))) (.cons (.ret (.tup (.cons (.bin .mod (.b1 .int (.bin .add (.var 3) (.idx (.var 2) (.int 0)))) (.idx (.var 0) (.int 0))) (.cons (.bin .mod (.b1 .int (.bin .add (.var 4) (.idx (.var 2) (.int 1)))) (.idx (.var 0) (.int 0))) (.cons (.idx (.var 1) (.int 2)) .nil))))) .nil))
theorem ok__law_star : okFn N__law_star P__law_star ir__law_star s__law_star = true := by decide +kernel
def F__law_star (ds : List M.D) : R M.D := runD 100000 5 ir__law_star ds
/-- _law_sky -/
abbrev s__law_sky : Stmt := top 33
def N__law_sky : List Str := ["_law_numbers_here", "_law_at", "_law_cameras", "_law_most", "_law_camera", "_law_motion_here", "_law_stars", "_law_k", "_law_side", "_law_reach", "_law_blur", "_law_draw", "_law_star_here", "_law_turn"]
def P__law_sky : List Str := ["_law_numbers_here", "_law_at", "_law_cameras", "_law_most"]
def b0__law_sky : ISs := (.cons (.ife (.and (.cons (.v (.cmp .notin (.var 12) (.bor 6))) (.cons (.v (.cmp .lt (.b1 .len (.bor 6)) (.var 3))) .nil))) (.cons (.app 6 (.var 12)) .nil) .nil) (.cons (.asg (.n 12) (.call "_law_star" F__law_star (.cons (.tup (.cons (.var 8) (.cons (.lst .nil) (.cons (.var 4) .nil)))) (.cons (.var 12) (.cons (.var 5) .nil))))) .nil))
def b1__law_sky : ISs := (.cons (.asg (.n 11) (.b1 .int (.idx (.var 0) (.bin .add (.bin .add (.var 1) (.int 6)) (.var 7))))) (.cons (.asg (.n 12) (.tup (.cons (.bin .mod (.b1 .int (.var 11)) (.var 8)) (.cons (.bin .mod (.b1 .int (.bin .fdiv (.var 11) (.int 11))) (.var 8)) (.cons (.idx (.lst (.cons (.int 5) (.cons (.int 5) (.cons (.int 3) (.cons (.int 9) (.cons (.int 7) (.cons (.bin .add (.int 1) (.bin .mod (.b1 .int (.bin .fdiv (.var 11) (.int 100))) (.int 9))) .nil))))))) (.bin .mod (.b1 .int (.bin .fdiv (.var 11) (.int 31))) (.int 6))) .nil))))) (.cons (.for_ (.n 13) (.r1 (.idx (.lst (.cons (.int 1) (.cons (.int 1) (.cons (.int 4) .nil)))) (.bin .mod (.b1 .int (.bin .fdiv (.idx (.var 0) (.bin .add (.var 1) (.int 1))) (.int 30))) (.int 3)))) b0__law_sky) .nil)))
def ir__law_sky : ISs := (.cons (.asg (.t [8, 9, 10]) (.idx (.var 2) (.bin .mod (.b1 .int (.idx (.var 0) (.var 1))) (.b1 .len (.var 2))))) (.cons (.asg (.n 4) (.tup (.cons (.var 9) (.cons (.var 10) (.cons (.idx (.lst (.cons (.int 0) (.cons (.int 0) (.cons (.int 0) (.cons (.int 1) (.cons (.int 2) .nil)))))) (.bin .mod (.b1 .int (.idx (.var 0) (.bin .add (.var 1) (.int 1)))) (.int 5))) (.cons (.idx (.lst (.cons (.int 1) (.cons (.int 1) (.cons (.int 2) (.cons (.int 4) (.cons (.int 6) (.cons (.int 9) .nil))))))) (.bin .mod (.b1 .int (.bin .fdiv (.idx (.var 0) (.bin .add (.var 1) (.int 1))) (.int 5))) (.int 6))) .nil)))))) (.cons (.asg (.n 5) (.call "_law_motion" F__law_motion (.cons (.tup (.cons (.var 8) (.cons (.lst .nil) (.cons (.var 4) .nil)))) (.cons (.var 0) (.cons (.bin .add (.var 1) (.int 2)) .nil))))) (.cons (.own 6 (.lst .nil)) (.cons (.for_ (.n 7) (.r1 (.bin .mod (.b1 .int (.idx (.var 0) (.bin .add (.var 1) (.int 5)))) (.bin .add (.var 3) (.int 1)))) b1__law_sky) (.cons (.frz 6) (.cons (.ret (.tup (.cons (.var 8) (.cons (.var 6) (.cons (.var 4) .nil))))) .nil)))))))
theorem ok__law_sky : okFn N__law_sky P__law_sky ir__law_sky s__law_sky = true := by decide +kernel
def F__law_sky (ds : List M.D) : R M.D := runD 100000 14 ir__law_sky ds
/-- is_camera -/
abbrev s_is_camera : Stmt := top 8
def N_is_camera : List Str := ["side", "camera", "reach", "blur", "glare", "limit"]
def P_is_camera : List Str := ["side", "camera"]
def ir_is_camera : ISs := (.cons (.ife (.v (.cmp .ne (.b1 .len (.var 1)) (.int 4))) (.cons (.ret (.bl false)) .nil) .nil) (.cons (.asg (.t [2, 3, 4, 5]) (.var 1)) (.cons (.ife (.or (.cons (.not (.v (.chain .le .le (.int 0) (.var 2) (.int 4)))) (.cons (.not (.v (.chain .le .le (.int 0) (.var 3) (.int 2)))) (.cons (.not (.v (.chain .le .le (.int 0) (.var 4) (.int 2)))) (.cons (.not (.v (.chain .le .le (.int 1) (.var 5) (.int 9)))) .nil))))) (.cons (.ret (.bl false)) .nil) .nil) (.cons (.ret (.and (.cons (.cmp .le (.var 3) (.var 2)) (.cons (.cmp .le (.bin .add (.bin .mul (.int 2) (.bin .add (.var 2) (.var 3))) (.int 1)) (.var 0)) .nil)))) .nil))))
theorem ok_is_camera : okFn N_is_camera P_is_camera ir_is_camera s_is_camera = true := by decide +kernel
def F_is_camera (ds : List M.D) : R M.D := runD 100000 6 ir_is_camera ds
/-- is_star -/
abbrev s_is_star : Stmt := top 9
def N_is_star : List Str := ["side", "star"]
def P_is_star : List Str := ["side", "star"]
def ir_is_star : ISs := (.cons (.ret (.and (.cons (.cmp .eq (.b1 .len (.var 1)) (.int 3)) (.cons (.chain .le .lt (.int 0) (.idx (.var 1) (.int 0)) (.var 0)) (.cons (.chain .le .lt (.int 0) (.idx (.var 1) (.int 1)) (.var 0)) (.cons (.chain .le .le (.int 1) (.idx (.var 1) (.int 2)) (.int 9)) .nil)))))) .nil)
theorem ok_is_star : okFn N_is_star P_is_star ir_is_star s_is_star = true := by decide +kernel
def F_is_star (ds : List M.D) : R M.D := runD 100000 2 ir_is_star ds
/-- Sky.__init__ -/
abbrev s_Sky___init__ : Stmt := inClass (top 11) 0
def N_Sky___init__ : List Str := ["self", "side", "stars", "camera", "star"]
def P_Sky___init__ : List Str := ["self", "side", "stars", "camera"]
def e0_Sky___init__ : IE := (.call "is_star" F_is_star (.cons (.var 1) (.cons (.var 4) .nil)))
def ir_Sky___init__ : ISs := (.cons (.ife (.or (.cons (.not (.v (.chain .le .le (.int 4) (.var 1) (.int 9)))) (.cons (.not (.v (.call "is_camera" F_is_camera (.cons (.var 1) (.cons (.var 3) .nil))))) .nil))) (.cons (.raise0 "InvalidSky") .nil) .nil) (.cons (.ife (.or (.cons (.v (.cmp .gt (.b1 .len (.var 2)) (.glob "MOST_STARS" c_MOST_STARS))) (.cons (.not (.v (.b1 .all (.lc (.n 4) [("star", 4)] (.seq (.var 2)) .nil e0_Sky___init__)))) .nil))) (.cons (.raise0 "InvalidSky") .nil) .nil) (.cons (.ife (.v (.cmp .ne (.nset (.var 2)) (.b1 .len (.var 2)))) (.cons (.raise0 "InvalidSky") .nil) .nil) (.cons (.setf 0 "Sky" "_side" (.var 1)) (.cons (.setf 0 "Sky" "_stars" (.b1 .tuple (.b1 .sorted (.var 2)))) (.cons (.setf 0 "Sky" "_camera" (.var 3)) .nil))))))
theorem ok_Sky___init__ : okFn N_Sky___init__ P_Sky___init__ ir_Sky___init__ s_Sky___init__ = true := by decide +kernel
def FM_Sky (ds : List M.D) : R (M.D × List M.D) := runM 100000 5 [0] ir_Sky___init__ ds
def F_Sky (ds : List M.D) : R M.D := initR (FM_Sky (.obj "Sky" [] [] :: ds))
/-- _law_made -/
abbrev s__law_made : Stmt := top 36
def N__law_made : List Str := ["_law_parts"]
def P__law_made : List Str := ["_law_parts"]
def ir__law_made : ISs := (.cons (.ret (.make "Sky" F_Sky (.cons (.idx (.var 0) (.int 0)) (.cons (.b1 .list (.idx (.var 0) (.int 1))) (.cons (.idx (.var 0) (.int 2)) .nil))))) .nil)
theorem ok__law_made : okFn N__law_made P__law_made ir__law_made s__law_made = true := by decide +kernel
def F__law_made (ds : List M.D) : R M.D := runD 100000 1 ir__law_made ds
/-- _law_attitude -/
abbrev s__law_attitude : Stmt := top 37
def N__law_attitude : List Str := ["_law_parts", "_law_numbers_here", "_law_at"]
def P__law_attitude : List Str := ["_law_parts", "_law_numbers_here", "_law_at"]
def ir__law_attitude : ISs := (.cons (.ret (.tup (.cons (.bin .mod (.b1 .int (.idx (.var 1) (.var 2))) (.idx (.var 0) (.int 0))) (.cons (.bin .mod (.b1 .int (.bin .fdiv (.idx (.var 1) (.var 2)) (.int 9))) (.idx (.var 0) (.int 0))) (.cons (.bin .mod (.b1 .int (.bin .fdiv (.idx (.var 1) (.var 2)) (.int 81))) (.int 4)) .nil))))) .nil)
theorem ok__law_attitude : okFn N__law_attitude P__law_attitude ir__law_attitude s__law_attitude = true := by decide +kernel
def F__law_attitude (ds : List M.D) : R M.D := runD 100000 3 ir__law_attitude ds
/-- _law_command -/
abbrev s__law_command : Stmt := top 39
def N__law_command : List Str := ["_law_numbers_here", "_law_at", "_law_draw"]
def P__law_command : List Str := ["_law_numbers_here", "_law_at"]
def ir__law_command : ISs := (.cons (.asg (.n 2) (.b1 .int (.idx (.var 0) (.var 1)))) (.cons (.ret (.tup (.cons (.idx (.lst (.cons (.int 0) (.cons (.int 1) (.cons (.int 0) (.cons (.neg (.int 1)) (.cons (.int 2) (.cons (.neg (.int 3)) (.cons (.int 1) (.cons (.int 3) .nil))))))))) (.bin .mod (.b1 .int (.var 2)) (.int 8))) (.cons (.idx (.lst (.cons (.int 0) (.cons (.int 1) (.cons (.neg (.int 2)) (.cons (.int 0) (.cons (.int 1) (.cons (.int 0) (.cons (.int 3) .nil)))))))) (.bin .mod (.b1 .int (.bin .fdiv (.var 2) (.int 8))) (.int 7))) (.cons (.idx (.lst (.cons (.int 0) (.cons (.int 0) (.cons (.int 0) (.cons (.int 1) (.cons (.int 2) (.cons (.int 3) .nil))))))) (.bin .mod (.b1 .int (.bin .fdiv (.var 2) (.int 56))) (.int 6))) .nil))))) .nil))
theorem ok__law_command : okFn N__law_command P__law_command ir__law_command s__law_command = true := by decide +kernel
def F__law_command (ds : List M.D) : R M.D := runD 100000 3 ir__law_command ds
/-- _law_commands -/
abbrev s__law_commands : Stmt := top 40
def N__law_commands : List Str := ["_law_numbers_here", "_law_at", "_law_most", "_law_found", "_law_k", "_law_command_here"]
def P__law_commands : List Str := ["_law_numbers_here", "_law_at", "_law_most"]
def b0__law_commands : ISs := (.cons (.asg (.n 5) (.call "_law_command" F__law_command (.cons (.var 0) (.cons (.bin .add (.bin .add (.var 1) (.int 1)) (.var 4)) .nil)))) (.cons (.ife (.v (.cmp .notin (.var 5) (.bor 3))) (.cons (.app 3 (.var 5)) .nil) .nil) .nil))
def ir__law_commands : ISs := (.cons (.own 3 (.lst .nil)) (.cons (.for_ (.n 4) (.r1 (.bin .add (.int 1) (.bin .mod (.b1 .int (.idx (.var 0) (.var 1))) (.var 2)))) b0__law_commands) (.cons (.frz 3) (.cons (.ret (.var 3)) .nil))))
theorem ok__law_commands : okFn N__law_commands P__law_commands ir__law_commands s__law_commands = true := by decide +kernel
def F__law_commands (ds : List M.D) : R M.D := runD 100000 6 ir__law_commands ds
/-- is_motion -/
abbrev s_is_motion : Stmt := top 10
def N_is_motion : List Str := ["side", "motion"]
def P_is_motion : List Str := ["side", "motion"]
def ir_is_motion : ISs := (.cons (.ret (.and (.cons (.cmp .eq (.b1 .len (.var 1)) (.int 3)) (.cons (.chain .le .lt (.int 0) (.idx (.var 1) (.int 0)) (.var 0)) (.cons (.chain .le .lt (.int 0) (.idx (.var 1) (.int 1)) (.var 0)) (.cons (.chain .le .le (.int 0) (.idx (.var 1) (.int 2)) (.int 3)) .nil)))))) .nil)
theorem ok_is_motion : okFn N_is_motion P_is_motion ir_is_motion s_is_motion = true := by decide +kernel
def F_is_motion (ds : List M.D) : R M.D := runD 100000 2 ir_is_motion ds
/-- Sky.side -/
abbrev s_Sky_side : Stmt := inClass (top 11) 1
def N_Sky_side : List Str := ["self"]
def P_Sky_side : List Str := ["self"]
def ir_Sky_side : ISs := (.cons (.ret (.fld "Sky" "_side" (.var 0))) .nil)
theorem ok_Sky_side : okFn N_Sky_side P_Sky_side ir_Sky_side s_Sky_side = true := by decide +kernel
def F_Sky_side (ds : List M.D) : R M.D := runD 100000 1 ir_Sky_side ds
/-- check_attitude -/
abbrev s_check_attitude : Stmt := top 13
def N_check_attitude : List Str := ["sky", "attitude"]
def P_check_attitude : List Str := ["sky", "attitude"]
def ir_check_attitude : ISs := (.cons (.ife (.not (.v (.call "is_motion" F_is_motion (.cons (.prop "Sky" "side" F_Sky_side (.var 0)) (.cons (.var 1) .nil))))) (.cons (.raise1 "InvalidAttitude" "attitude" (.var 1)) .nil) .nil) .nil)
theorem ok_check_attitude : okFn N_check_attitude P_check_attitude ir_check_attitude s_check_attitude = true := by decide +kernel
def F_check_attitude (ds : List M.D) : R M.D := runD 100000 2 ir_check_attitude ds
/-- check_command -/
abbrev s_check_command : Stmt := top 14
def N_check_command : List Str := ["sky", "command"]
def P_check_command : List Str := ["sky", "command"]
def ir_check_command : ISs := (.cons (.ife (.or (.cons (.v (.cmp .ne (.b1 .len (.var 1)) (.int 3))) (.cons (.not (.v (.chain .le .le (.int 0) (.idx (.var 1) (.int 2)) (.int 3)))) (.cons (.v (.cmp .ge (.b2 .max (.b1 .abs (.idx (.var 1) (.int 0))) (.b1 .abs (.idx (.var 1) (.int 1)))) (.prop "Sky" "side" F_Sky_side (.var 0)))) .nil)))) (.cons (.raise1 "InvalidCommand" "command" (.var 1)) .nil) .nil) .nil)
theorem ok_check_command : okFn N_check_command P_check_command ir_check_command s_check_command = true := by decide +kernel
def F_check_command (ds : List M.D) : R M.D := runD 100000 2 ir_check_command ds
/-- check_commands_rows -/
abbrev s_check_commands_rows : Stmt := top 18
def N_check_commands_rows : List Str := ["sky", "commands", "command"]
def P_check_commands_rows : List Str := ["sky", "commands"]
def b0_check_commands_rows : ISs := (.cons (.drop (.call "check_command" F_check_command (.cons (.var 0) (.cons (.var 2) .nil)))) .nil)
def ir_check_commands_rows : ISs := (.cons (.for_ (.n 2) (.seq (.var 1)) b0_check_commands_rows) .nil)
theorem ok_check_commands_rows : okFn N_check_commands_rows P_check_commands_rows ir_check_commands_rows s_check_commands_rows = true := by decide +kernel
def F_check_commands_rows (ds : List M.D) : R M.D := runD 100000 3 ir_check_commands_rows ds
/-- turned -/
abbrev s_turned : Stmt := top 15
def N_turned : List Str := ["quarters", "pair", "_", "x", "y"]
def P_turned : List Str := ["quarters", "pair"]
def b0_turned : ISs := (.cons (.par 3 4 (.neg (.var 4)) (.var 3)) .nil)
def ir_turned : ISs := (.cons (.asg (.t [3, 4]) (.var 1)) (.cons (.for_ (.n 2) (.r1 (.bin .mod (.var 0) (.int 4))) b0_turned) (.cons (.ret (.tup (.cons (.var 3) (.cons (.var 4) .nil)))) .nil)))
theorem ok_turned : okFn N_turned P_turned ir_turned s_turned = true := by decide +kernel
def F_turned (ds : List M.D) : R M.D := runD 100000 5 ir_turned ds
/-- commanded -/
abbrev s_commanded : Stmt := top 16
def N_commanded : List Str := ["sky", "attitude", "command", "x", "y"]
def P_commanded : List Str := ["sky", "attitude", "command"]
def ir_commanded : ISs := (.cons (.drop (.call "check_attitude" F_check_attitude (.cons (.var 0) (.cons (.var 1) .nil)))) (.cons (.drop (.call "check_command" F_check_command (.cons (.var 0) (.cons (.var 2) .nil)))) (.cons (.asg (.t [3, 4]) (.call "turned" F_turned (.cons (.idx (.var 1) (.int 2)) (.cons (.slc (.var 2) .no (.some (.int 2))) .nil)))) (.cons (.ret (.tup (.cons (.bin .mod (.bin .add (.idx (.var 1) (.int 0)) (.var 3)) (.prop "Sky" "side" F_Sky_side (.var 0))) (.cons (.bin .mod (.bin .add (.idx (.var 1) (.int 1)) (.var 4)) (.prop "Sky" "side" F_Sky_side (.var 0))) (.cons (.bin .mod (.bin .add (.idx (.var 1) (.int 2)) (.idx (.var 2) (.int 2))) (.int 4)) .nil))))) .nil))))
theorem ok_commanded : okFn N_commanded P_commanded ir_commanded s_commanded = true := by decide +kernel
def F_commanded (ds : List M.D) : R M.D := runD 100000 5 ir_commanded ds
/-- course -/
abbrev s_course : Stmt := top 20
def N_course : List Str := ["sky", "beginning", "row", "found", "command"]
def P_course : List Str := ["sky", "beginning", "row"]
def b0_course : ISs := (.cons (.app 3 (.call "commanded" F_commanded (.cons (.var 0) (.cons (.idx (.bor 3) (.neg (.int 1))) (.cons (.var 4) .nil))))) .nil)
def ir_course : ISs := (.cons (.drop (.call "check_attitude" F_check_attitude (.cons (.var 0) (.cons (.var 1) .nil)))) (.cons (.drop (.call "check_commands_rows" F_check_commands_rows (.cons (.var 0) (.cons (.var 2) .nil)))) (.cons (.own 3 (.lst (.cons (.var 1) .nil))) (.cons (.for_ (.n 4) (.seq (.var 2)) b0_course) (.cons (.frz 3) (.cons (.ret (.var 3)) .nil))))))
theorem ok_course : okFn N_course P_course ir_course s_course = true := by decide +kernel
def F_course (ds : List M.D) : R M.D := runD 100000 5 ir_course ds
/-- as_one -/
abbrev s_as_one : Stmt := top 24
def N_as_one : List Str := ["sky", "row"]
def P_as_one : List Str := ["sky", "row"]
def ir_as_one : ISs := (.cons (.ret (.idx (.call "course" F_course (.cons (.var 0) (.cons (.tup (.cons (.int 0) (.cons (.int 0) (.cons (.int 0) .nil)))) (.cons (.var 1) .nil)))) (.neg (.int 1)))) .nil)
theorem ok_as_one : okFn N_as_one P_as_one ir_as_one s_as_one = true := by decide +kernel
def F_as_one (ds : List M.D) : R M.D := runD 100000 2 ir_as_one ds
/-- _law_commanded -/
abbrev s__law_commanded : Stmt := top 38
def N__law_commanded : List Str := ["_law_parts", "_law_attitude_here", "_law_command_here", "_law_x", "_law_y"]
def P__law_commanded : List Str := ["_law_parts", "_law_attitude_here", "_law_command_here"]
def ir__law_commanded : ISs := (.cons (.asg (.t [3, 4]) (.call "_law_turned" F__law_turned (.cons (.idx (.var 1) (.int 2)) (.cons (.idx (.var 2) (.int 0)) (.cons (.idx (.var 2) (.int 1)) .nil))))) (.cons (.ret (.tup (.cons (.bin .mod (.b1 .int (.bin .add (.idx (.var 1) (.int 0)) (.var 3))) (.idx (.var 0) (.int 0))) (.cons (.bin .mod (.b1 .int (.bin .add (.idx (.var 1) (.int 1)) (.var 4))) (.idx (.var 0) (.int 0))) (.cons (.bin .mod (.b1 .int (.bin .add (.idx (.var 1) (.int 2)) (.idx (.var 2) (.int 2)))) (.int 4)) .nil))))) .nil))
theorem ok__law_commanded : okFn N__law_commanded P__law_commanded ir__law_commanded s__law_commanded = true := by decide +kernel
def F__law_commanded (ds : List M.D) : R M.D := runD 100000 5 ir__law_commanded ds
/-- _law_course -/
abbrev s__law_course : Stmt := top 41
def N__law_course : List Str := ["_law_parts", "_law_attitude_here", "_law_row_here", "_law_found", "_law_command_here"]
def P__law_course : List Str := ["_law_parts", "_law_attitude_here", "_law_row_here"]
def b0__law_course : ISs := (.cons (.app 3 (.call "_law_commanded" F__law_commanded (.cons (.var 0) (.cons (.idx (.bor 3) (.neg (.int 1))) (.cons (.var 4) .nil))))) .nil)
def ir__law_course : ISs := (.cons (.own 3 (.lst (.cons (.var 1) .nil))) (.cons (.for_ (.n 4) (.seq (.var 2)) b0__law_course) (.cons (.frz 3) (.cons (.ret (.var 3)) .nil))))
theorem ok__law_course : okFn N__law_course P__law_course ir__law_course s__law_course = true := by decide +kernel
def F__law_course (ds : List M.D) : R M.D := runD 100000 5 ir__law_course ds
/-- _law_rows -/
abbrev s__law_rows : Stmt := top 42
def N__law_rows : List Str := ["_law_parts", "_law_attitude_here", "_law_commands_here", "_law_rows_here", "_law_order", "_law_at", "_law_command_here", "_law_there"]
def P__law_rows : List Str := ["_law_parts", "_law_attitude_here", "_law_commands_here"]
def t0__law_rows : IQ := (.v (.cmp .lt (.var 5) (.b1 .len (.bor 4))))
def b1__law_rows : ISs := (.cons (.asg (.n 7) (.call "_law_commanded" F__law_commanded (.cons (.var 0) (.cons (.idx (.bor 4) (.var 5)) (.cons (.var 6) .nil))))) (.cons (.ife (.v (.cmp .notin (.var 7) (.bor 3))) (.cons (.seti 3 (.var 7) (.bin .add (.idx (.bor 3) (.idx (.bor 4) (.var 5))) (.lst (.cons (.var 6) .nil)))) (.cons (.app 4 (.var 7)) .nil)) .nil) .nil))
def b2__law_rows : ISs := (.cons (.for_ (.n 6) (.seq (.var 2)) b1__law_rows) (.cons (.asg (.n 5) (.bin .add (.var 5) (.int 1))) .nil))
def ir__law_rows : ISs := (.cons (.own 3 (.ddis (.var 1) (.lst .nil))) (.cons (.own 4 (.lst (.cons (.var 1) .nil))) (.cons (.asg (.n 5) (.int 0)) (.cons (.while_ t0__law_rows b2__law_rows) (.cons (.frz 3) (.cons (.ret (.var 3)) .nil))))))
theorem ok__law_rows : okFn N__law_rows P__law_rows ir__law_rows s__law_rows = true := by decide +kernel
def F__law_rows (ds : List M.D) : R M.D := runD 100000 8 ir__law_rows ds
/-- check_commands_turns -/
abbrev s_check_commands_turns : Stmt := top 22
def N_check_commands_turns : List Str := ["sky", "commands", "command"]
def P_check_commands_turns : List Str := ["sky", "commands"]
def b0_check_commands_turns : ISs := (.cons (.drop (.call "check_command" F_check_command (.cons (.var 0) (.cons (.var 2) .nil)))) .nil)
def ir_check_commands_turns : ISs := (.cons (.for_ (.n 2) (.seq (.var 1)) b0_check_commands_turns) .nil)
theorem ok_check_commands_turns : okFn N_check_commands_turns P_check_commands_turns ir_check_commands_turns s_check_commands_turns = true := by decide +kernel
def F_check_commands_turns (ds : List M.D) : R M.D := runD 100000 3 ir_check_commands_turns ds
/-- ways_from -/
abbrev s_ways_from : Stmt := top 25
def N_ways_from : List Str := ["sky", "attitude", "commands", "found", "waiting", "at", "command", "there"]
def P_ways_from : List Str := ["sky", "attitude", "commands"]
def t0_ways_from : IQ := (.v (.cmp .lt (.var 5) (.b1 .len (.bor 4))))
def b1_ways_from : ISs := (.cons (.asg (.n 7) (.call "commanded" F_commanded (.cons (.var 0) (.cons (.idx (.bor 4) (.var 5)) (.cons (.var 6) .nil))))) (.cons (.ife (.v (.cmp .notin (.var 7) (.bor 3))) (.cons (.seti 3 (.var 7) (.tup (.cons (.idx (.bor 4) (.var 5)) (.cons (.var 6) .nil)))) (.cons (.app 4 (.var 7)) .nil)) .nil) .nil))
def b2_ways_from : ISs := (.cons (.for_ (.n 6) (.seq (.var 2)) b1_ways_from) (.cons (.aug 5 .add (.int 1)) .nil))
def ir_ways_from : ISs := (.cons (.own 3 (.ddis (.var 1) .non)) (.cons (.own 4 (.lst (.cons (.var 1) .nil))) (.cons (.asg (.n 5) (.int 0)) (.cons (.while_ t0_ways_from b2_ways_from) (.cons (.frz 3) (.cons (.ret (.var 3)) .nil))))))
theorem ok_ways_from : okFn N_ways_from P_ways_from ir_ways_from s_ways_from = true := by decide +kernel
def F_ways_from (ds : List M.D) : R M.D := runD 100000 8 ir_ways_from ds
/-- reached -/
abbrev s_reached : Stmt := top 27
def N_reached : List Str := ["sky", "attitude", "commands"]
def P_reached : List Str := ["sky", "attitude", "commands"]
def ir_reached : ISs := (.cons (.drop (.call "check_attitude" F_check_attitude (.cons (.var 0) (.cons (.var 1) .nil)))) (.cons (.drop (.call "check_commands_turns" F_check_commands_turns (.cons (.var 0) (.cons (.var 2) .nil)))) (.cons (.ret (.b1 .sorted (.call "ways_from" F_ways_from (.cons (.var 0) (.cons (.var 1) (.cons (.var 2) .nil)))))) .nil)))
theorem ok_reached : okFn N_reached P_reached ir_reached s_reached = true := by decide +kernel
def F_reached (ds : List M.D) : R M.D := runD 100000 3 ir_reached ds
/-- row_along -/
abbrev s_row_along : Stmt := top 26
def N_row_along : List Str := ["ways", "goal", "row", "command"]
def P_row_along : List Str := ["ways", "goal"]
def t0_row_along : IQ := (.v (.notN (.idx (.var 0) (.var 1))))
def b1_row_along : ISs := (.cons (.asg (.t [1, 3]) (.idx (.var 0) (.var 1))) (.cons (.app 2 (.var 3)) .nil))
def ir_row_along : ISs := (.cons (.own 2 (.lst .nil)) (.cons (.while_ t0_row_along b1_row_along) (.cons (.ret (.rev (.bor 2))) .nil)))
theorem ok_row_along : okFn N_row_along P_row_along ir_row_along s_row_along = true := by decide +kernel
def F_row_along (ds : List M.D) : R M.D := runD 100000 4 ir_row_along ds
/-- row_to -/
abbrev s_row_to : Stmt := top 28
def N_row_to : List Str := ["sky", "attitude", "goal", "commands", "ways"]
def P_row_to : List Str := ["sky", "attitude", "goal", "commands"]
def ir_row_to : ISs := (.cons (.drop (.call "check_attitude" F_check_attitude (.cons (.var 0) (.cons (.var 1) .nil)))) (.cons (.drop (.call "check_attitude" F_check_attitude (.cons (.var 0) (.cons (.var 2) .nil)))) (.cons (.drop (.call "check_commands_turns" F_check_commands_turns (.cons (.var 0) (.cons (.var 3) .nil)))) (.cons (.asg (.n 4) (.call "ways_from" F_ways_from (.cons (.var 0) (.cons (.var 1) (.cons (.var 3) .nil))))) (.cons (.ret (.ife (.v (.cmp .isin (.var 2) (.var 4))) (.call "row_along" F_row_along (.cons (.var 4) (.cons (.var 2) .nil))) .non)) .nil)))))
theorem ok_row_to : okFn N_row_to P_row_to ir_row_to s_row_to = true := by decide +kernel
def F_row_to (ds : List M.D) : R M.D := runD 100000 5 ir_row_to ds
/-- _law_told -/
abbrev s__law_told : Stmt := top 43
def N__law_told : List Str := ["_law_which", "_law_sky_here", "_law_attitude_here", "_law_goal", "_law_commands_here", "error"]
def P__law_told : List Str := ["_law_which", "_law_sky_here", "_law_attitude_here", "_law_goal", "_law_commands_here"]
def ir__law_told : ISs := (.cons (.try_ ["SkyError", "InvalidSky", "InvalidAttitude", "InvalidCommand"] (.cons (.ife (.v (.cmp .eq (.var 0) (.int 0))) (.cons (.drop (.call "as_one" F_as_one (.cons (.var 1) (.cons (.var 4) .nil)))) .nil) (.cons (.ife (.v (.cmp .eq (.var 0) (.int 1))) (.cons (.drop (.call "reached" F_reached (.cons (.var 1) (.cons (.var 2) (.cons (.var 4) .nil))))) .nil) (.cons (.drop (.call "row_to" F_row_to (.cons (.var 1) (.cons (.var 2) (.cons (.var 3) (.cons (.var 4) .nil)))))) .nil)) .nil)) .nil) (.cons "InvalidCommand" ["InvalidCommand"] (some 5) (.cons (.ret (.tup (.cons (.str "command") (.cons (.xat 5 "InvalidCommand" "command") .nil)))) .nil) (.cons "InvalidAttitude" ["InvalidAttitude"] (some 5) (.cons (.ret (.tup (.cons (.str "attitude") (.cons (.xat 5 "InvalidAttitude" "attitude") .nil)))) .nil) .nil))) (.cons (.ret .non) .nil))
theorem ok__law_told : okFn N__law_told P__law_told ir__law_told s__law_told = true := by decide +kernel
def F__law_told (ds : List M.D) : R M.D := runD 100000 6 ir__law_told ds
/-- law -/
abbrev s_law : Stmt := top 44
def N_law : List Str := ["_law_script", "_law_numbers_here", "_law_parts", "_law_sky_here", "_law_commands_here", "_law_row_here", "_law_whole", "_law_rows_here", "_law_far", "_law_side", "_law_wrong", "_law_spoilt", "_law_out", "_law_attitude_here", "_law_goal", "_law_k", "_law_one", "_law_which"]
def P_law : List Str := ["_law_script"]
def e0_law : IE := (.call "_law_command" F__law_command (.cons (.var 1) (.cons (.bin .add (.int 27) (.var 15)) .nil)))
def e1_law : IE := (.cmp .ne (.call "_law_commanded" F__law_commanded (.cons (.var 2) (.cons (.var 16) (.cons (.var 6) .nil)))) (.idx (.call "_law_course" F__law_course (.cons (.var 2) (.cons (.var 16) (.cons (.var 5) .nil)))) (.neg (.int 1))))
def e2_law : IE := (.cmp .ne (.call "_law_told" F__law_told (.cons (.var 17) (.cons (.var 3) (.cons (.var 13) (.cons (.var 14) (.cons (.var 11) .nil)))))) (.tup (.cons (.str "command") (.cons (.var 10) .nil))))
def ir_law : ISs := (.cons (.asg (.n 1) (.call "_law_numbers" F__law_numbers (.cons (.var 0) (.cons (.int 60) .nil)))) (.cons (.asg (.n 2) (.call "_law_sky" F__law_sky (.cons (.var 1) (.cons (.int 0) (.cons (.lst (.cons (.tup (.cons (.int 4) (.cons (.int 1) (.cons (.int 0) .nil)))) (.cons (.tup (.cons (.int 5) (.cons (.int 1) (.cons (.int 1) .nil)))) (.cons (.tup (.cons (.int 6) (.cons (.int 2) (.cons (.int 0) .nil)))) (.cons (.tup (.cons (.int 7) (.cons (.int 1) (.cons (.int 0) .nil)))) .nil))))) (.cons (.int 3) .nil)))))) (.cons (.asg (.n 3) (.call "_law_made" F__law_made (.cons (.var 2) .nil))) (.cons (.asg (.t [13, 14]) (.tup (.cons (.call "_law_attitude" F__law_attitude (.cons (.var 2) (.cons (.var 1) (.cons (.int 20) .nil)))) (.cons (.call "_law_attitude" F__law_attitude (.cons (.var 2) (.cons (.var 1) (.cons (.int 21) .nil)))) .nil)))) (.cons (.asg (.n 4) (.call "_law_commands" F__law_commands (.cons (.var 1) (.cons (.int 22) (.cons (.int 3) .nil))))) (.cons (.asg (.n 5) (.lc (.n 15) [("_law_k", 15)] (.r1 (.bin .mod (.b1 .int (.idx (.var 1) (.int 26))) (.int 8))) .nil e0_law)) (.cons (.asg (.n 6) (.call "as_one" F_as_one (.cons (.var 3) (.cons (.var 5) .nil)))) (.cons (.ife (.v (.cmp .ne (.var 6) (.idx (.call "_law_course" F__law_course (.cons (.var 2) (.cons (.tup (.cons (.int 0) (.cons (.int 0) (.cons (.int 0) .nil)))) (.cons (.var 5) .nil)))) (.neg (.int 1))))) (.cons (.ret (.bl false)) .nil) .nil) (.cons (.ife (.v (.b1 .any (.lc (.n 16) [("_law_one", 16)] (.seq (.lst (.cons (.var 13) (.cons (.var 14) .nil)))) .nil e1_law))) (.cons (.ret (.bl false)) .nil) .nil) (.cons (.asg (.n 7) (.call "_law_rows" F__law_rows (.cons (.var 2) (.cons (.var 13) (.cons (.var 4) .nil))))) (.cons (.ife (.or (.cons (.v (.cmp .ne (.call "reached" F_reached (.cons (.var 3) (.cons (.var 13) (.cons (.var 4) .nil)))) (.b1 .sorted (.var 7)))) (.cons (.v (.cmp .ne (.b1 .len (.call "reached" F_reached (.cons (.var 3) (.cons (.var 14) (.cons (.var 4) .nil))))) (.b1 .len (.var 7)))) .nil))) (.cons (.ret (.bl false)) .nil) .nil) (.cons (.ife (.or (.cons (.v (.cmp .ne (.call "row_to" F_row_to (.cons (.var 3) (.cons (.var 13) (.cons (.var 14) (.cons (.var 4) .nil))))) (.dget1 (.var 7) (.var 14)))) (.cons (.v (.cmp .ne (.call "row_to" F_row_to (.cons (.var 3) (.cons (.var 13) (.cons (.var 13) (.cons (.var 4) .nil))))) (.lst .nil))) .nil))) (.cons (.ret (.bl false)) .nil) .nil) (.cons (.asg (.n 8) (.idx (.b1 .sorted (.var 7)) (.bin .mod (.b1 .int (.idx (.var 1) (.int 36))) (.b1 .len (.var 7))))) (.cons (.ife (.v (.cmp .ne (.call "row_to" F_row_to (.cons (.var 3) (.cons (.var 13) (.cons (.var 8) (.cons (.var 4) .nil))))) (.idx (.var 7) (.var 8)))) (.cons (.ret (.bl false)) .nil) .nil) (.cons (.asg (.n 9) (.idx (.var 2) (.int 0))) (.cons (.asg (.n 10) (.idx (.lst (.cons (.tup (.cons (.var 9) (.cons (.int 0) (.cons (.int 0) .nil)))) (.cons (.tup (.cons (.int 0) (.cons (.bin .sub (.int 0) (.var 9)) (.cons (.int 1) .nil)))) (.cons (.tup (.cons (.int 0) (.cons (.int 0) (.cons (.int 4) .nil)))) (.cons (.tup (.cons (.int 0) (.cons (.var 9) (.cons (.int 1) .nil)))) (.cons (.tup (.cons (.int 0) (.cons (.int 1) (.cons (.bin .sub (.int 0) (.int 1)) .nil)))) .nil)))))) (.bin .mod (.b1 .int (.idx (.var 1) (.int 37))) (.int 5)))) (.cons (.asg (.n 11) (.bin .add (.var 4) (.lst (.cons (.var 10) (.cons (.tup (.cons (.bin .add (.var 9) (.int 1)) (.cons (.int 0) (.cons (.int 0) .nil)))) .nil))))) (.cons (.ife (.v (.b1 .any (.lc (.n 17) [("_law_which", 17)] (.r1 (.int 3)) .nil e2_law))) (.cons (.ret (.bl false)) .nil) .nil) (.cons (.asg (.n 12) (.tup (.cons (.var 9) (.cons (.int 0) (.cons (.int 0) .nil))))) (.cons (.ife (.or (.cons (.v (.cmp .ne (.call "_law_told" F__law_told (.cons (.int 1) (.cons (.var 3) (.cons (.var 12) (.cons (.var 14) (.cons (.var 11) .nil)))))) (.tup (.cons (.str "attitude") (.cons (.var 12) .nil))))) (.cons (.v (.cmp .ne (.call "_law_told" F__law_told (.cons (.int 2) (.cons (.var 3) (.cons (.var 12) (.cons (.var 14) (.cons (.var 11) .nil)))))) (.tup (.cons (.str "attitude") (.cons (.var 12) .nil))))) .nil))) (.cons (.ret (.bl false)) .nil) .nil) (.cons (.ret (.cmp .eq (.call "_law_told" F__law_told (.cons (.int 2) (.cons (.var 3) (.cons (.var 13) (.cons (.var 12) (.cons (.var 11) .nil)))))) (.tup (.cons (.str "attitude") (.cons (.var 12) .nil))))) .nil)))))))))))))))))))))
theorem ok_law : okFn N_law P_law ir_law s_law = true := by decide +kernel
def F_law (ds : List M.D) : R M.D := runD 100000 18 ir_law ds
end K47
set_option Elab.async false
set_option linter.all false
set_option maxRecDepth 100000
set_option maxHeartbeats 4000000
namespace K47
open PySem L2 M
theorem numbers_eq : F__law_numbers = FNum := rfl
/-! ### tuples of ints -/
def tD (t : List Int) : M.D := .tup (t.map M.D.int)
theorem goods_i : ∀ (n : Nat) (t : List Int), goods n (t.map M.D.int) = true
  | _, [] => rfl
  | n, x :: t => by
    show (good n (.int x) && goods n (t.map M.D.int)) = true
    rw [goods_i n t]
    cases n <;> rfl
theorem good_t (n : Nat) (t : List Int) : good (n + 1) (tD t) = true := goods_i n t
theorem goods_t (n : Nat) : ∀ (w : List (List Int)), goods (n + 1) (w.map tD) = true
  | [] => rfl
  | p :: w => by
    show (good (n + 1) (tD p) && goods (n + 1) (w.map tD)) = true
    rw [goods_t n w, good_t]
    rfl
theorem beqs_i : ∀ (t u : List Int), beqs (t.map M.D.int) (u.map M.D.int) = decide (t = u)
  | [], [] => rfl
  | [], _ :: _ => rfl
  | _ :: _, [] => rfl
  | x :: t, y :: u => by
    show (x == y && beqs (t.map M.D.int) (u.map M.D.int)) = _
    rw [beqs_i t u, Bool.eq_iff_iff]
    simp only [Bool.and_eq_true, beq_iff_eq, decide_eq_true_eq, List.cons.injEq]
theorem any_t (p : List Int) : ∀ (w : List (List Int)), (w.map tD).any (fun z => beq z (tD p)) = decide (p ∈ w)
  | [] => rfl
  | q :: w => by
    rw [List.map_cons, List.any_cons, any_t p w]
    have e : beq (tD q) (tD p) = decide (p = q) := by
      show beqs (q.map M.D.int) (p.map M.D.int) = _
      rw [beqs_i, Bool.eq_iff_iff]
      simp only [decide_eq_true_eq]
      exact ⟨Eq.symm, Eq.symm⟩
    rw [e]
    simp only [List.mem_cons, Bool.decide_or]
theorem in_t (p : List Int) (w : List (List Int)) : inD (tD p) (w.map tD) = .ok (decide (p ∈ w)) := by
  unfold inD
  rw [goods_t 59 w, any_t, good_t]
  rfl
theorem notin_t (p : List Int) (w : List (List Int)) : cmpD .notin (tD p) (.lst (w.map tD)) = .ok (!decide (p ∈ w)) := by
  show (inD (tD p) (w.map tD)).bind _ = _
  rw [in_t]
  rfl
theorem asInts_i : ∀ (t : List Int), asInts (t.map M.D.int) = some t
  | [] => rfl
  | x :: t => by
    show (asInts (t.map M.D.int)).map (x :: ·) = _
    rw [asInts_i t]
    rfl
theorem asTups_t : ∀ (w : List (List Int)), asTups (w.map tD) = some w
  | [] => rfl
  | t :: w => by
    show ((asInts (t.map M.D.int)).bind fun ns => (asTups (w.map tD)).map (ns :: ·)) = _
    rw [asInts_i, asTups_t w]
    rfl
theorem asInts_t {w : List (List Int)} (h : w ≠ []) : asInts (w.map tD) = none := by
  cases w with
  | nil => exact absurd rfl h
  | cons t w => rfl
theorem sortD_t {w : List (List Int)} (h : ∀ t ∈ w, t ≠ []) : sortD (w.map tD) = .ok ((sortT w).map tD) := by
  by_cases hw : w = []
  · subst hw
    simp [sortD, asInts, sortI, sortT]
  · unfold sortD
    rw [asInts_t hw, asTups_t]
    simp only
    rw [if_pos (List.all_eq_true.mpr fun t ht => by
      cases t with
      | nil => exact absurd rfl (h _ ht)
      | cons _ _ => rfl)]
    rfl
theorem once_id : ∀ {w : List (List Int)}, w.Nodup → onceT w = w
  | [], _ => rfl
  | x :: w, h => by
    obtain ⟨h1, h2⟩ := List.nodup_cons.mp h
    unfold onceT
    rw [if_neg h1, once_id h2]
theorem nset_t {w : List (List Int)} (h : w.Nodup) (hl : w.length < 64) : nsetD (.lst (w.map tD)) = .ok (.int w.length) := by
  show nsetL (w.map tD) = _
  by_cases hw : w = []
  · subst hw; rfl
  · unfold nsetL
    rw [asInts_t hw, asTups_t]
    simp only
    rw [if_pos hl, once_id h]
theorem lexLe_of {x y z : List Int} (h : lexLe x y = true) (h' : lexLe y z = true) : lexLe x z = true := by
  unfold lexLe at h h' ⊢
  rw [Bool.not_eq_true'] at h h' ⊢
  exact lexLt_tr _ _ _ h h'
theorem lexLe_tot (x y : List Int) : (lexLe x y || lexLe y x) = true := by
  unfold lexLe
  cases q : HT.lexLt y x with
  | false => rfl
  | true => rw [lexLt_asym _ _ q]; rfl
theorem sortT_perm (w : List (List Int)) : (sortT w).Perm w := List.mergeSort_perm ..
theorem sortT_idem (w : List (List Int)) : sortT (sortT w) = sortT w := List.mergeSort_of_pairwise (List.pairwise_mergeSort (le := lexLe) (fun _ _ _ => lexLe_of) lexLe_tot w)
/-! ### drawn skies -/
def six (s : Int) : Prop := s = 4 ∨ s = 5 ∨ s = 6 ∨ s = 7 ∨ s = 8 ∨ s = 9
def StarOk (s : Int) (t : List Int) : Prop := ∃ x y z : Int, t = [x, y, z] ∧ (0 ≤ x ∧ x < s) ∧ (0 ≤ y ∧ y < s) ∧ (1 ≤ z ∧ z ≤ 9)
def CamOk (s r b g l : Int) : Prop := (0 ≤ r ∧ r ≤ 4) ∧ (0 ≤ b ∧ b ≤ 2) ∧ b ≤ r ∧ 2 * (r + b) + 1 ≤ s ∧ (0 ≤ g ∧ g ≤ 2) ∧ (1 ≤ l ∧ l ≤ 9)
def Stars (s : Int) (n : Nat) (w : List (List Int)) : Prop := w.Nodup ∧ w.length ≤ n ∧ ∀ t ∈ w, StarOk s t
theorem Stars.up {s : Int} {n m : Nat} {w : List (List Int)} (h : Stars s n w) (hm : n ≤ m) : Stars s m w := ⟨h.1, Nat.le_trans h.2.1 hm, h.2.2⟩
theorem Stars.snoc {s : Int} {n : Nat} {w : List (List Int)} {t : List Int} (h : Stars s n w) (ht : t ∉ w) (hs : StarOk s t) : Stars s (n + 1) (w ++ [t]) := by
  refine ⟨List.nodup_append.mpr ⟨h.1, List.nodup_cons.mpr ⟨by simp, List.nodup_nil⟩, fun a ha b hb e => ?_⟩, by rw [List.length_append]; have := h.2.1; simp; omega, fun u hu => ?_⟩
  · rw [List.mem_singleton.mp hb] at e
    exact ht (by rw [← e]; exact ha)
  · rcases List.mem_append.mp hu with hu | hu
    · exact h.2.2 u hu
    · rw [List.mem_singleton.mp hu]; exact hs
theorem Stars.ne {s : Int} {n : Nat} {w : List (List Int)} (h : Stars s n w) : ∀ t ∈ w, t ≠ [] := fun t ht => by
  obtain ⟨x, y, z, rfl, _⟩ := h.2.2 t ht
  exact fun e => (by cases e)
theorem Stars.sort {s : Int} {n : Nat} {w : List (List Int)} (h : Stars s n w) : Stars s n (sortT w) :=
  ⟨(sortT_perm w).nodup_iff.mpr h.1, by rw [(sortT_perm w).length_eq]; exact h.2.1, fun t ht => h.2.2 t ((sortT_perm w).mem_iff.mp ht)⟩
end K47
set_option Elab.async false
set_option linter.all false
set_option maxRecDepth 100000
set_option maxHeartbeats 4000000
namespace K47
open PySem L2 M
def skyD (s : Int) (w : List (List Int)) (r b g l : Int) : M.D := .obj "Sky" ["_side", "_stars", "_camera"] [.int s, .tup (w.map tD), .tup [.int r, .int b, .int g, .int l]]
theorem camera_ok {s r b g l : Int} (h : CamOk s r b g l) : F_is_camera [.int s, .tup [.int r, .int b, .int g, .int l]] = .ok (.bl true) := by
  obtain ⟨⟨h1, h2⟩, ⟨h3, h4⟩, h5, h6, ⟨h7, h8⟩, h9, h10⟩ := h
  unfold F_is_camera
  simp [evSs, evS, evE, evEs, evT, evAndT, evOrT, evAnd, evOr, evC, evO, evI, bindF, thenF, nxR, getv, getb, setv, bindP, setAll, ownD, putO, augF, frE, B1.fresh, runD, runM, outM, stF, st0, _root_.M.isNon, LIM, ev_bo, ev_be, ev_bb, ev_rs, ev_rn, ev_add, ev_sub, ev_mulr, ev_mull, ev_mod, ev_fdiv, ev_addl, ev_lt, ev_le, ev_gt, ev_ge, ev_eqi, ev_nei, ev_tb, ev_ti, ev_tn, ev_tl, ev_lenl, ev_lens, ev_lent, ev_abs, ev_int, ev_max2, ev_min2, ev_ai, ev_ixl, ev_ixs, ev_ixt, ev_sql, ev_sqs, ev_sqt, ev_rng, ev_rng2, ev_sl, ev_ss, ir_is_camera, h1, h2, h3, h4, h5, h6, h7, h8, h9, h10]
theorem star_ok {s : Int} {t : List Int} (h : StarOk s t) : F_is_star [.int s, tD t] = .ok (.bl true) := by
  obtain ⟨x, y, z, rfl, ⟨h1, h2⟩, ⟨h3, h4⟩, h5, h6⟩ := h
  have e0 : atI [M.D.int x, .int y, .int z] 0 = some (.int x) := rfl
  have e1 : atI [M.D.int x, .int y, .int z] 1 = some (.int y) := rfl
  have e2 : atI [M.D.int x, .int y, .int z] 2 = some (.int z) := rfl
  unfold F_is_star tD
  simp [evSs, evS, evE, evEs, evT, evAndT, evOrT, evAnd, evOr, evC, evO, evI, bindF, thenF, nxR, getv, getb, setv, bindP, setAll, ownD, putO, augF, frE, B1.fresh, runD, runM, outM, stF, st0, _root_.M.isNon, LIM, ev_bo, ev_be, ev_bb, ev_rs, ev_rn, ev_add, ev_sub, ev_mulr, ev_mull, ev_mod, ev_fdiv, ev_addl, ev_lt, ev_le, ev_gt, ev_ge, ev_eqi, ev_nei, ev_tb, ev_ti, ev_tn, ev_tl, ev_lenl, ev_lens, ev_lent, ev_abs, ev_int, ev_max2, ev_min2, ev_ai, ev_ixl, ev_ixs, ev_ixt, ev_sql, ev_sqs, ev_sqt, ev_rng, ev_rng2, ev_sl, ev_ss, ir_is_star, e0, e1, e2, h1, h2, h3, h4, h5, h6]
theorem lcRun_all {b : M.D → R ES} {t : ES → R Bool} {e : ES → R M.D} {f : M.D → M.D} : ∀ (l : List M.D), (∀ x ∈ l, ∃ st, b x = .ok st ∧ t st = .ok true ∧ e st = .ok (f x)) → lcRun b t e l = .ok (l.map f)
  | [], _ => rfl
  | x :: l, h => by
    obtain ⟨st, h1, h2, h3⟩ := h x List.mem_cons_self
    unfold lcRun
    rw [h1]
    show (t st).bind _ = _
    rw [h2]
    have hr := lcRun_all (b := b) (t := t) (e := e) (f := f) l fun y hy => h y (List.mem_cons_of_mem _ hy)
    simp only [R.bind, if_true, h3, hr]
    rfl
theorem asBools_true : ∀ (l : List M.D), asBools (l.map fun _ => M.D.bl true) = some (l.map fun _ => true)
  | [] => rfl
  | _ :: l => by
    show (asBools (l.map fun _ => M.D.bl true)).map (true :: ·) = _
    rw [asBools_true l]
    rfl
theorem all_true (l : List M.D) : b1D .all (.lst (l.map fun _ => M.D.bl true)) = .ok (.bl true) := by
  show (R.of (asBools (l.map fun _ => M.D.bl true))).bind _ = _
  rw [asBools_true]
  show R.ok (M.D.bl ((l.map fun _ => true).all id)) = _
  congr 2
  induction l with
  | nil => rfl
  | cons x l ih => exact ih
theorem sky_any {s r b g l : Int} {n : Nat} {w : List (List Int)} (hs : six s) (hw : Stars s n w) (hn : n ≤ 20) (hc : CamOk s r b g l) : F_Sky [.int s, .lst (w.map tD), .tup [.int r, .int b, .int g, .int l]] = .ok (skyD s (sortT w) r b g l) := by
  have h1 : 4 ≤ s := by rcases hs with rfl | rfl | rfl | rfl | rfl | rfl <;> decide
  have h2 : s ≤ 9 := by rcases hs with rfl | rfl | rfl | rfl | rfl | rfl <;> decide
  have hlen := hw.2.1
  have h3 : ¬ (20 : Int) < (w.length : Int) := by omega
  have hcam := camera_ok hc
  have hns : nsetD (.lst (w.map tD)) = .ok (.int w.length) := nset_t hw.1 (by omega)
  have hsd : b1D .sorted (.lst (w.map tD)) = .ok (.lst ((sortT w).map tD)) := by
    show (sortD (w.map tD)).bind _ = _
    rw [sortD_t hw.ne]
    rfl
  have htp : ∀ l : List M.D, b1D .tuple (.lst l) = .ok (.tup l) := fun _ => rfl
  have hlc : ∀ (O C : Sl), lcRun (fun x => R.ok [O, .val (.int s), .val (.lst (w.map tD)), C, .val x]) (fun _ => R.ok true) (fun s => evE e0_Sky___init__ s) (w.map tD) = .ok ((w.map tD).map fun _ => .bl true) := fun O C => lcRun_all _ fun x hx => by
    obtain ⟨t, ht, rfl⟩ := List.mem_map.mp hx
    have hst := star_ok (hw.2.2 t ht)
    refine ⟨[O, .val (.int s), .val (.lst (w.map tD)), C, .val (tD t)], rfl, rfl, ?_⟩
    simp [evSs, evS, evE, evEs, evT, evAndT, evOrT, evAnd, evOr, evC, evO, evI, bindF, thenF, nxR, getv, getb, setv, bindP, setAll, ownD, putO, augF, frE, B1.fresh, runD, runM, outM, stF, st0, _root_.M.isNon, LIM, ev_bo, ev_be, ev_bb, ev_rs, ev_rn, ev_add, ev_sub, ev_mulr, ev_mull, ev_mod, ev_fdiv, ev_addl, ev_lt, ev_le, ev_gt, ev_ge, ev_eqi, ev_nei, ev_tb, ev_ti, ev_tn, ev_tl, ev_lenl, ev_lens, ev_lent, ev_abs, ev_int, ev_max2, ev_min2, ev_ai, ev_ixl, ev_ixs, ev_ixt, ev_sql, ev_sqs, ev_sqt, ev_rng, ev_rng2, ev_sl, ev_ss, e0_Sky___init__, hst]
  have hal := all_true (w.map tD)
  have hmx : w.length ≤ 16777216 := by omega
  generalize ((w.map tD).map fun _ => M.D.bl true) = L at hlc hal
  have d1 : ¬ (("_side" : Str) = "_stars") := by decide
  have d2 : ¬ (("_side" : Str) = "_camera") := by decide
  have d3 : ¬ (("_stars" : Str) = "_camera") := by decide
  unfold F_Sky FM_Sky skyD
  simp [evSs, evS, evE, evEs, evT, evAndT, evOrT, evAnd, evOr, evC, evO, evI, bindF, thenF, nxR, getv, getb, setv, bindP, setAll, ownD, putO, augF, frE, B1.fresh, runD, runM, outM, stF, st0, _root_.M.isNon, LIM, ev_bo, ev_be, ev_bb, ev_rs, ev_rn, ev_add, ev_sub, ev_mulr, ev_mull, ev_mod, ev_fdiv, ev_addl, ev_lt, ev_le, ev_gt, ev_ge, ev_eqi, ev_nei, ev_tb, ev_ti, ev_tn, ev_tl, ev_lenl, ev_lens, ev_lent, ev_abs, ev_int, ev_max2, ev_min2, ev_ai, ev_ixl, ev_ixs, ev_ixt, ev_sql, ev_sqs, ev_sqt, ev_rng, ev_rng2, ev_sl, ev_ss, ir_Sky___init__, initR, putN, isPar, parD, d1, d2, d3, h1, h2, h3, hcam, hns, hsd, htp, hlc, hal, wipeS, noErr, hmx, c_MOST_STARS]
theorem sky_ok {s r b g l : Int} {n : Nat} {w : List (List Int)} (hs : six s) (hw : Stars s n w) (hn : n ≤ 20) (hsrt : sortT w = w) (hc : CamOk s r b g l) : F_Sky [.int s, .lst (w.map tD), .tup [.int r, .int b, .int g, .int l]] = .ok (skyD s w r b g l) := by
  have h := sky_any hs hw hn hc
  rw [hsrt] at h
  exact h
theorem side_ev (s r b g l : Int) (w : List (List Int)) : F_Sky_side [skyD s w r b g l] = .ok (.int s) := rfl
end K47
set_option Elab.async false
set_option linter.all false
set_option maxRecDepth 100000
set_option maxHeartbeats 4000000
namespace K47
open PySem L2 M
/-- turned by quarters -/
def rX (q x y : Int) : Int := if q % 4 = 0 then x else if q % 4 = 1 then -y else if q % 4 = 2 then -x else y
def rY (q x y : Int) : Int := if q % 4 = 0 then y else if q % 4 = 1 then x else if q % 4 = 2 then -y else -x
theorem turned_ok (q x y : Int) : F__law_turned [.int q, .int x, .int y] = .ok (.tup [.int (rX q x y), .int (rY q x y)]) := by
  have hq : q % 4 = 0 ∨ q % 4 = 1 ∨ q % 4 = 2 ∨ q % 4 = 3 := by omega
  unfold F__law_turned rX rY
  have i0 : intsTo 0 0 = [] := rfl
  have i1 : intsTo 0 1 = [.int 0] := rfl
  have i2 : intsTo 0 2 = [.int 0, .int 1] := rfl
  have i3 : intsTo 0 3 = [.int 0, .int 1, .int 2] := rfl
  rcases hq with h | h | h | h
  · simp [evSs, evS, evE, evEs, evT, evAndT, evOrT, evAnd, evOr, evC, evO, evI, bindF, thenF, nxR, getv, getb, setv, bindP, setAll, ownD, putO, augF, frE, B1.fresh, runD, runM, outM, stF, st0, _root_.M.isNon, LIM, ev_bo, ev_be, ev_bb, ev_rs, ev_rn, ev_add, ev_sub, ev_mulr, ev_mull, ev_mod, ev_fdiv, ev_addl, ev_lt, ev_le, ev_gt, ev_ge, ev_eqi, ev_nei, ev_tb, ev_ti, ev_tn, ev_tl, ev_lenl, ev_lens, ev_lent, ev_abs, ev_int, ev_max2, ev_min2, ev_ai, ev_ixl, ev_ixs, ev_ixt, ev_sql, ev_sqs, ev_sqt, ev_rng, ev_rng2, ev_sl, ev_ss, ir__law_turned, h, i0, forRun]
  · simp [evSs, evS, evE, evEs, evT, evAndT, evOrT, evAnd, evOr, evC, evO, evI, bindF, thenF, nxR, getv, getb, setv, bindP, setAll, ownD, putO, augF, frE, B1.fresh, runD, runM, outM, stF, st0, _root_.M.isNon, LIM, ev_bo, ev_be, ev_bb, ev_rs, ev_rn, ev_add, ev_sub, ev_mulr, ev_mull, ev_mod, ev_fdiv, ev_addl, ev_lt, ev_le, ev_gt, ev_ge, ev_eqi, ev_nei, ev_tb, ev_ti, ev_tn, ev_tl, ev_lenl, ev_lens, ev_lent, ev_abs, ev_int, ev_max2, ev_min2, ev_ai, ev_ixl, ev_ixs, ev_ixt, ev_sql, ev_sqs, ev_sqt, ev_rng, ev_rng2, ev_sl, ev_ss, ir__law_turned, h, i1, forRun, b0__law_turned]
  · simp [evSs, evS, evE, evEs, evT, evAndT, evOrT, evAnd, evOr, evC, evO, evI, bindF, thenF, nxR, getv, getb, setv, bindP, setAll, ownD, putO, augF, frE, B1.fresh, runD, runM, outM, stF, st0, _root_.M.isNon, LIM, ev_bo, ev_be, ev_bb, ev_rs, ev_rn, ev_add, ev_sub, ev_mulr, ev_mull, ev_mod, ev_fdiv, ev_addl, ev_lt, ev_le, ev_gt, ev_ge, ev_eqi, ev_nei, ev_tb, ev_ti, ev_tn, ev_tl, ev_lenl, ev_lens, ev_lent, ev_abs, ev_int, ev_max2, ev_min2, ev_ai, ev_ixl, ev_ixs, ev_ixt, ev_sql, ev_sqs, ev_sqt, ev_rng, ev_rng2, ev_sl, ev_ss, ir__law_turned, h, i2, forRun, b0__law_turned]
  · simp [evSs, evS, evE, evEs, evT, evAndT, evOrT, evAnd, evOr, evC, evO, evI, bindF, thenF, nxR, getv, getb, setv, bindP, setAll, ownD, putO, augF, frE, B1.fresh, runD, runM, outM, stF, st0, _root_.M.isNon, LIM, ev_bo, ev_be, ev_bb, ev_rs, ev_rn, ev_add, ev_sub, ev_mulr, ev_mull, ev_mod, ev_fdiv, ev_addl, ev_lt, ev_le, ev_gt, ev_ge, ev_eqi, ev_nei, ev_tb, ev_ti, ev_tn, ev_tl, ev_lenl, ev_lens, ev_lent, ev_abs, ev_int, ev_max2, ev_min2, ev_ai, ev_ixl, ev_ixs, ev_ixt, ev_sql, ev_sqs, ev_sqt, ev_rng, ev_rng2, ev_sl, ev_ss, ir__law_turned, h, i3, forRun, b0__law_turned]
def near (s z : Int) : Int := if 2 * (z % s) ≤ s then z % s else z % s - s
def ab (i : Int) : Int := if i < 0 then -i else i
def mx (i j : Int) : Int := if j > i then j else i
theorem sl2 (x y z : M.D) : sliceD (.tup [x, y, z]) none (some 2) = .ok (.tup [x, y]) := rfl
theorem at0 (x y z : M.D) : atI [x, y, z] 0 = some x := rfl
theorem at1 (x y z : M.D) : atI [x, y, z] 1 = some y := rfl
theorem at2 (x y z : M.D) : atI [x, y, z] 2 = some z := rfl
def mvX (s x y m0 m2 : Int) : Int := (rX m2 x y + m0) % s
def mvY (s x y m1 m2 : Int) : Int := (rY m2 x y + m1) % s
def AttOk (s a c q : Int) : Prop := (0 ≤ a ∧ a < s) ∧ (0 ≤ c ∧ c < s) ∧ 0 ≤ q ∧ q ≤ 3
def aD (a c q : Int) : M.D := .tup [.int a, .int c, .int q]
theorem motion_ok {s a b c : Int} (ha : 0 ≤ a ∧ a < s) (hb : 0 ≤ b ∧ b < s) (hc : 0 ≤ c ∧ c ≤ 3) : F_is_motion [.int s, .tup [.int a, .int b, .int c]] = .ok (.bl true) := by
  unfold F_is_motion
  have e0 : atI [M.D.int a, .int b, .int c] 0 = some (.int a) := rfl
  have e1 : atI [M.D.int a, .int b, .int c] 1 = some (.int b) := rfl
  have e2 : atI [M.D.int a, .int b, .int c] 2 = some (.int c) := rfl
  simp [evSs, evS, evE, evEs, evT, evAndT, evOrT, evAnd, evOr, evC, evO, evI, bindF, thenF, nxR, getv, getb, setv, bindP, setAll, ownD, putO, augF, frE, B1.fresh, runD, runM, outM, stF, st0, _root_.M.isNon, LIM, ev_bo, ev_be, ev_bb, ev_rs, ev_rn, ev_add, ev_sub, ev_mulr, ev_mull, ev_mod, ev_fdiv, ev_addl, ev_lt, ev_le, ev_gt, ev_ge, ev_eqi, ev_nei, ev_tb, ev_ti, ev_tn, ev_tl, ev_lenl, ev_lens, ev_lent, ev_abs, ev_int, ev_max2, ev_min2, ev_ai, ev_ixl, ev_ixs, ev_ixt, ev_sql, ev_sqs, ev_sqt, ev_rng, ev_rng2, ev_sl, ev_ss, ir_is_motion, e0, e1, e2, ha, hb, hc]
theorem att_ok {s r bl g l a b c : Int} {w : List (List Int)} (ha : 0 ≤ a ∧ a < s) (hb : 0 ≤ b ∧ b < s) (hc : 0 ≤ c ∧ c ≤ 3) : F_check_attitude [skyD s w r bl g l, .tup [.int a, .int b, .int c]] = .ok .non := by
  have h1 := motion_ok ha hb hc
  have h2 := side_ev s r bl g l w
  unfold F_check_attitude
  unfold skyD at h2 ⊢
  simp [evSs, evS, evE, evEs, evT, evAndT, evOrT, evAnd, evOr, evC, evO, evI, bindF, thenF, nxR, getv, getb, setv, bindP, setAll, ownD, putO, augF, frE, B1.fresh, runD, runM, outM, stF, st0, _root_.M.isNon, LIM, ev_bo, ev_be, ev_bb, ev_rs, ev_rn, ev_add, ev_sub, ev_mulr, ev_mull, ev_mod, ev_fdiv, ev_addl, ev_lt, ev_le, ev_gt, ev_ge, ev_eqi, ev_nei, ev_tb, ev_ti, ev_tn, ev_tl, ev_lenl, ev_lens, ev_lent, ev_abs, ev_int, ev_max2, ev_min2, ev_ai, ev_ixl, ev_ixs, ev_ixt, ev_sql, ev_sqs, ev_sqt, ev_rng, ev_rng2, ev_sl, ev_ss, ir_check_attitude, noErr, h1, h2]
section
variable {s r b g l a c q m0 m1 m2 o0 o1 o2 : Int} {w : List (List Int)}
end
/-! ### arithmetic -/
def bt (o2 a2 : Int) : Int := (o2 - a2) % 4
theorem q4 {q : Int} (h : 0 ≤ q ∧ q ≤ 3) : q = 0 ∨ q = 1 ∨ q = 2 ∨ q = 3 := by omega
theorem mo {s : Int} (hs : 0 < s) (x : Int) : 0 ≤ x % s ∧ x % s < s := ⟨Int.emod_nonneg _ (by omega), Int.emod_lt_of_pos _ hs⟩
theorem mn {s : Int} (x k : Int) : (-(x % s) + k) % s = (-x + k) % s := by
  rw [Int.emod_def x s, show -(x - s * (x / s)) + k = (-x + k) + s * (x / s) by omega, Int.add_mul_emod_self_left]
theorem mp {s : Int} (x k : Int) : (x % s + k) % s = (x + k) % s := Int.emod_add_emod ..
theorem mr {s : Int} (x k : Int) : (k + x % s) % s = (k + x) % s := Int.add_emod_emod ..
theorem ms {s : Int} (x k : Int) : (k - x % s) % s = (k - x) % s := by
  rw [Int.emod_def x s, show k - (x - s * (x / s)) = (k - x) + s * (x / s) by omega, Int.add_mul_emod_self_left]
theorem rX_mod (q x y : Int) : rX (q % 4) x y = rX q x y := by unfold rX; rw [Int.emod_emod]
theorem rY_mod (q x y : Int) : rY (q % 4) x y = rY q x y := by unfold rY; rw [Int.emod_emod]
theorem rXm {s : Int} (q x y k : Int) : (rX q (x % s) (y % s) + k) % s = (rX q x y + k) % s := by
  unfold rX
  split
  · exact mp ..
  · split
    · exact mn ..
    · split
      · exact mn ..
      · exact mp ..
theorem rYm {s : Int} (q x y k : Int) : (rY q (x % s) (y % s) + k) % s = (rY q x y + k) % s := by
  unfold rY
  split
  · exact mp ..
  · split
    · exact mp ..
    · split
      · exact mn ..
      · exact mn ..
theorem rXa (q x y u v : Int) : rX q (x + u) (y + v) = rX q x y + rX q u v := by
  unfold rX; split <;> (try split) <;> (try split) <;> omega
theorem rYa (q x y u v : Int) : rY q (x + u) (y + v) = rY q x y + rY q u v := by
  unfold rY; split <;> (try split) <;> (try split) <;> omega
theorem r4 (q : Int) : q % 4 = 0 ∨ q % 4 = 1 ∨ q % 4 = 2 ∨ q % 4 = 3 := by omega
theorem rXX (p q x y : Int) : rX p (rX q x y) (rY q x y) = rX (q + p) x y := by
  unfold rX rY
  rw [Int.add_emod q p 4]
  rcases r4 p with h | h | h | h <;> rcases r4 q with k | k | k | k <;> rw [h, k] <;> simp
theorem rYY (p q x y : Int) : rY p (rX q x y) (rY q x y) = rY (q + p) x y := by
  unfold rX rY
  rw [Int.add_emod q p 4]
  rcases r4 p with h | h | h | h <;> rcases r4 q with k | k | k | k <;> rw [h, k] <;> simp
section
variable {s a c q f0 f1 f2 m0 m1 m2 o0 o1 o2 : Int}
theorem comp_X : mvX s (mvX s a c f0 f2) (mvY s a c f1 f2) m0 m2 = mvX s a c (mvX s f0 f1 m0 m2) ((f2 + m2) % 4) := by
  unfold mvX mvY
  rw [rXm, rXa, rXX, rX_mod, mr, Int.add_assoc]
theorem comp_Y : mvY s (mvX s a c f0 f2) (mvY s a c f1 f2) m1 m2 = mvY s a c (mvY s f0 f1 m1 m2) ((f2 + m2) % 4) := by
  unfold mvX mvY
  rw [rYm, rYa, rYY, rY_mod, mr, Int.add_assoc]
theorem comp_q : ((q + f2) % 4 + m2) % 4 = (q + (f2 + m2) % 4) % 4 := by omega
theorem mv_at (hs : 0 < s) : AttOk s (mvX s a c f0 f2) (mvY s a c f1 f2) ((q + f2) % 4) := ⟨mo hs _, mo hs _, by omega⟩
theorem r0X (x y : Int) : rX 0 x y = x := rfl
theorem r0Y (x y : Int) : rY 0 x y = y := rfl
theorem rXn (q x y : Int) : rX q (-x) (-y) = - rX q x y := by unfold rX; split <;> (try split) <;> (try split) <;> omega
theorem rYn (q x y : Int) : rY q (-x) (-y) = - rY q x y := by unfold rY; split <;> (try split) <;> (try split) <;> omega
theorem back_ok (h : AttOk s a c q) (hf : 0 ≤ f2 ∧ f2 ≤ 3) :
    mvX s (mvX s a c f0 f2) (mvY s a c f1 f2) (rX (-f2) (-f0) (-f1) % s) ((-f2) % 4) = a ∧ mvY s (mvX s a c f0 f2) (mvY s a c f1 f2) (rY (-f2) (-f0) (-f1) % s) ((-f2) % 4) = c ∧ ((q + f2) % 4 + (-f2) % 4) % 4 = q := by
  have e2 : (f2 + -f2 % 4) % 4 = 0 := by omega
  refine ⟨?_, ?_, by have := h.2.2; omega⟩
  · have z : (rX (-f2 % 4) f0 f1 + rX (-f2) (-f0) (-f1) % s) % s = 0 := by
      rw [mr, rX_mod, rXn, show rX (-f2) f0 f1 + -rX (-f2) f0 f1 = 0 by omega, Int.zero_emod]
    rw [comp_X, e2]
    unfold mvX
    rw [z, Int.add_zero, r0X, Int.emod_eq_of_lt h.1.1 h.1.2]
  · have z : (rY (-f2 % 4) f0 f1 + rY (-f2) (-f0) (-f1) % s) % s = 0 := by
      rw [mr, rY_mod, rYn, show rY (-f2) f0 f1 + -rY (-f2) f0 f1 = 0 by omega, Int.zero_emod]
    rw [comp_Y, e2]
    unfold mvY
    rw [z, Int.add_zero, r0Y, Int.emod_eq_of_lt h.2.1.1 h.2.1.2]
end
section
variable {s a c q f0 f1 f2 m0 m1 m2 o0 o1 o2 : Int}
/-! offsets stay -/
end
theorem lcRun_map {α : Type} {b : M.D → R ES} {t : ES → R Bool} {e : ES → R M.D} {g f : α → M.D} : ∀ (l : List α), (∀ x ∈ l, ∃ st, b (g x) = .ok st ∧ t st = .ok true ∧ e st = .ok (f x)) → lcRun b t e (l.map g) = .ok (l.map f)
  | [], _ => rfl
  | x :: l, h => by
    obtain ⟨st, h1, h2, h3⟩ := h x List.mem_cons_self
    rw [List.map_cons]
    unfold lcRun
    rw [h1]
    show (t st).bind _ = _
    rw [h2]
    have hr := lcRun_map (b := b) (t := t) (e := e) (g := g) (f := f) l fun y hy => h y (List.mem_cons_of_mem _ hy)
    simp only [R.bind, if_true, h3, hr]
    rfl
/-! ### moved stars -/
def mvS (s m0 m1 m2 : Int) : List Int → List Int
  | [x, y, z] => [mvX s x y m0 m2, mvY s x y m1 m2, z]
  | t => t
section
variable {s r b g l a c q m0 m1 m2 : Int} {w : List (List Int)}
theorem mvS_ok (hs : 0 < s) {t : List Int} (h : StarOk s t) : StarOk s (mvS s m0 m1 m2 t) := by
  obtain ⟨x, y, z, rfl, hx, hy, hz⟩ := h
  exact ⟨_, _, z, rfl, mo hs _, mo hs _, hz⟩
theorem mvS_inj (hm : 0 ≤ m2 ∧ m2 ≤ 3) {t u : List Int} (h : StarOk s t) (h' : StarOk s u) (e : mvS s m0 m1 m2 t = mvS s m0 m1 m2 u) : t = u := by
  obtain ⟨x, y, z, rfl, hx, hy, hz⟩ := h
  obtain ⟨x', y', z', rfl, hx', hy', hz'⟩ := h'
  unfold mvS at e
  simp only [List.cons.injEq, and_true] at e
  obtain ⟨e1, e2, e3⟩ := e
  obtain ⟨a1, a2, _⟩ := back_ok (f0 := m0) (f1 := m1) (q := 0) ⟨hx, hy, by decide⟩ hm
  obtain ⟨b1, b2, _⟩ := back_ok (f0 := m0) (f1 := m1) (q := 0) ⟨hx', hy', by decide⟩ hm
  rw [e1, e2, b1] at a1
  rw [e1, e2, b2] at a2
  rw [a1, a2, e3]
theorem nodup_map {f : List Int → List Int} : ∀ {w : List (List Int)}, (∀ x ∈ w, ∀ y ∈ w, f x = f y → x = y) → w.Nodup → (w.map f).Nodup
  | [], _, _ => List.nodup_nil
  | x :: w, h, hn => by
    obtain ⟨h1, h2⟩ := List.nodup_cons.mp hn
    rw [List.map_cons]
    refine List.nodup_cons.mpr ⟨fun z => ?_, nodup_map (fun a ha b hb => h a (List.mem_cons_of_mem _ ha) b (List.mem_cons_of_mem _ hb)) h2⟩
    obtain ⟨y, hy, e⟩ := List.mem_map.mp z
    exact h1 (by rw [← h y (List.mem_cons_of_mem _ hy) x List.mem_cons_self e]; exact hy)
end
/-! ### all triples -/
def row1 (x y : Int) : List (List Int) := [[x, y, 0], [x, y, 1], [x, y, 2], [x, y, 3]]
def rows (x : Int) : Nat → List (List Int)
  | 0 => []
  | j + 1 => rows x j ++ row1 x (j : Int)
def tri (n : Nat) : Nat → List (List Int)
  | 0 => []
  | i + 1 => tri n i ++ rows (i : Int) n
def every (s : Int) : List (List Int) := tri s.toNat s.toNat
theorem mem_row {x y : Int} {t : List Int} : t ∈ row1 x y ↔ ∃ q : Int, t = [x, y, q] ∧ 0 ≤ q ∧ q ≤ 3 := by
  unfold row1
  simp only [List.mem_cons, List.not_mem_nil, or_false]
  constructor
  · rintro (rfl | rfl | rfl | rfl) <;> exact ⟨_, rfl, by decide⟩
  · rintro ⟨q, rfl, h⟩
    rcases q4 h with rfl | rfl | rfl | rfl <;> simp
theorem mem_rows {x : Int} {t : List Int} : ∀ {n : Nat}, t ∈ rows x n ↔ ∃ y q : Int, t = [x, y, q] ∧ (0 ≤ y ∧ y < n) ∧ 0 ≤ q ∧ q ≤ 3
  | 0 => ⟨fun h => (by cases h), fun ⟨y, q, _, h, _⟩ => (by omega)⟩
  | n + 1 => by
    unfold rows
    rw [List.mem_append, mem_rows (n := n), mem_row]
    constructor
    · rintro (⟨y, q, rfl, h, hq⟩ | ⟨q, rfl, hq⟩)
      · exact ⟨y, q, rfl, by omega, hq⟩
      · exact ⟨_, q, rfl, by omega, hq⟩
    · rintro ⟨y, q, rfl, h, hq⟩
      by_cases e : y = (n : Int)
      · subst e
        exact .inr ⟨q, rfl, hq⟩
      · exact .inl ⟨y, q, rfl, by omega, hq⟩
theorem mem_tri {n : Nat} {t : List Int} : ∀ {i : Nat}, t ∈ tri n i ↔ ∃ x y q : Int, t = [x, y, q] ∧ (0 ≤ x ∧ x < i) ∧ (0 ≤ y ∧ y < n) ∧ 0 ≤ q ∧ q ≤ 3
  | 0 => ⟨fun h => (by cases h), fun ⟨x, y, q, _, h, _⟩ => (by omega)⟩
  | i + 1 => by
    unfold tri
    rw [List.mem_append, mem_tri (i := i), mem_rows]
    constructor
    · rintro (⟨x, y, q, rfl, h, hq⟩ | ⟨y, q, rfl, hq⟩)
      · exact ⟨x, y, q, rfl, by omega, hq⟩
      · exact ⟨_, y, q, rfl, by omega, hq⟩
    · rintro ⟨x, y, q, rfl, h, hq⟩
      by_cases e : x = (i : Int)
      · subst e
        exact .inr ⟨y, q, rfl, hq⟩
      · exact .inl ⟨x, y, q, rfl, by omega, hq⟩
theorem mem_every {s : Int} (hs : 0 < s) {t : List Int} : t ∈ every s ↔ ∃ a c q : Int, t = [a, c, q] ∧ AttOk s a c q := by
  unfold every AttOk
  rw [mem_tri]
  have e : ((s.toNat : Nat) : Int) = s := by omega
  rw [e]
theorem rows_len (x : Int) : ∀ n : Nat, (rows x n).length = 4 * n
  | 0 => rfl
  | n + 1 => by
    unfold rows row1
    rw [List.length_append, rows_len x n]
    simp only [List.length_cons, List.length_nil]
    omega
theorem tri_len (n : Nat) : ∀ i : Nat, (tri n i).length = 4 * n * i
  | 0 => rfl
  | i + 1 => by
    unfold tri
    rw [List.length_append, tri_len n i, rows_len, Nat.mul_succ]
theorem every_nodup {s : Int} (h : six s) : (every s).Nodup := by
  rcases h with rfl | rfl | rfl | rfl | rfl | rfl <;> decide +kernel
end K47
set_option Elab.async false
set_option linter.all false
set_option maxRecDepth 100000
set_option maxHeartbeats 4000000
namespace K47
open PySem L2 M
section
variable {s r b g l a c q m0 m1 m2 o0 o1 o2 x y z : Int} {w : List (List Int)} {W C : M.D}
def pD (s : Int) (W C : M.D) : M.D := .tup [.int s, W, C]
theorem p0 (s : Int) (W C : M.D) : atI [M.D.int s, W, C] 0 = some (.int s) := rfl
theorem p1 (s : Int) (W C : M.D) : atI [M.D.int s, W, C] 1 = some W := rfl
theorem p2 (s : Int) (W C : M.D) : atI [M.D.int s, W, C] 2 = some C := rfl
theorem lstar_ok (hs : 0 < s) : F__law_star [pD s W C, .tup [.int x, .int y, .int z], aD m0 m1 m2] = .ok (.tup [.int (mvX s x y m0 m2), .int (mvY s x y m1 m2), .int z]) := by
  have h1 := turned_ok m2 x y
  unfold F__law_star aD mvX mvY pD
  generalize rX m2 x y = U at *
  generalize rY m2 x y = V at *
  simp [evSs, evS, evE, evEs, evT, evAndT, evOrT, evAnd, evOr, evC, evO, evI, bindF, thenF, nxR, getv, getb, setv, bindP, setAll, ownD, putO, augF, frE, B1.fresh, runD, runM, outM, stF, st0, _root_.M.isNon, LIM, ev_bo, ev_be, ev_bb, ev_rs, ev_rn, ev_add, ev_sub, ev_mulr, ev_mull, ev_mod, ev_fdiv, ev_addl, ev_lt, ev_le, ev_gt, ev_ge, ev_eqi, ev_nei, ev_tb, ev_ti, ev_tn, ev_tl, ev_lenl, ev_lens, ev_lent, ev_abs, ev_int, ev_max2, ev_min2, ev_ai, ev_ixl, ev_ixs, ev_ixt, ev_sql, ev_sqs, ev_sqt, ev_rng, ev_rng2, ev_sl, ev_ss, ir__law_star, h1, p0, at0, at1, at2, hs]
theorem lmotion_ok (hs : 0 < s) {m : Nat} {xs : List Int} {at_ : Int} (hd : Drawn1 m xs) (h0 : 0 ≤ at_) (hm : at_ + 2 < m) : ∃ m0 m1 m2, AttOk s m0 m1 m2 ∧ F__law_motion [pD s W C, .lst (xs.map M.D.int), .int at_] = .ok (aD m0 m1 m2) := by
  obtain ⟨n0, a0, b0, c0⟩ := drawn_at hd (i := at_) (by omega) (by omega)
  obtain ⟨n1, a1, b1, c1⟩ := drawn_at hd (i := at_ + 1) (by omega) (by omega)
  obtain ⟨n2, a2, b2, c2⟩ := drawn_at hd (i := at_ + 2) (by omega) (by omega)
  refine ⟨n0 % s, n1 % s, n2 % 4, ⟨mo hs _, mo hs _, by omega⟩, ?_⟩
  unfold F__law_motion aD pD
  simp [evSs, evS, evE, evEs, evT, evAndT, evOrT, evAnd, evOr, evC, evO, evI, bindF, thenF, nxR, getv, getb, setv, bindP, setAll, ownD, putO, augF, frE, B1.fresh, runD, runM, outM, stF, st0, _root_.M.isNon, LIM, ev_bo, ev_be, ev_bb, ev_rs, ev_rn, ev_add, ev_sub, ev_mulr, ev_mull, ev_mod, ev_fdiv, ev_addl, ev_lt, ev_le, ev_gt, ev_ge, ev_eqi, ev_nei, ev_tb, ev_ti, ev_tn, ev_tl, ev_lenl, ev_lens, ev_lent, ev_abs, ev_int, ev_max2, ev_min2, ev_ai, ev_ixl, ev_ixs, ev_ixt, ev_sql, ev_sqs, ev_sqt, ev_rng, ev_rng2, ev_sl, ev_ss, ir__law_motion, a0, a1, a2, p0, hs]
theorem lmade_ok {n : Nat} (h : six s) (hw : Stars s n w) (hn : n ≤ 20) (hc : CamOk s r b g l) : F__law_made [pD s (.lst (w.map tD)) (.tup [.int r, .int b, .int g, .int l])] = .ok (skyD s (sortT w) r b g l) := by
  have h1 := sky_any h hw hn hc
  have hli : ∀ l : List M.D, b1D .list (.lst l) = .ok (.lst l) := fun _ => rfl
  unfold F__law_made pD
  generalize w.map tD = W at *
  generalize M.D.tup [.int r, .int b, .int g, .int l] = C at *
  simp [evSs, evS, evE, evEs, evT, evAndT, evOrT, evAnd, evOr, evC, evO, evI, bindF, thenF, nxR, getv, getb, setv, bindP, setAll, ownD, putO, augF, frE, B1.fresh, runD, runM, outM, stF, st0, _root_.M.isNon, LIM, ev_bo, ev_be, ev_bb, ev_rs, ev_rn, ev_add, ev_sub, ev_mulr, ev_mull, ev_mod, ev_fdiv, ev_addl, ev_lt, ev_le, ev_gt, ev_ge, ev_eqi, ev_nei, ev_tb, ev_ti, ev_tn, ev_tl, ev_lenl, ev_lens, ev_lent, ev_abs, ev_int, ev_max2, ev_min2, ev_ai, ev_ixl, ev_ixs, ev_ixt, ev_sql, ev_sqs, ev_sqt, ev_rng, ev_rng2, ev_sl, ev_ss, ir__law_made, p0, p1, p2, h1, hli]
end
end K47
set_option Elab.async false
set_option linter.all false
set_option maxRecDepth 100000
set_option maxHeartbeats 4000000
namespace K47
open PySem L2 M
/-! ### the law's drawn sky -/
def camL : List M.D := [.tup [.int 4, .int 1, .int 0], .tup [.int 5, .int 1, .int 1], .tup [.int 6, .int 2, .int 0], .tup [.int 7, .int 1, .int 0]]
theorem cam_at {i : Int} (h : 0 ≤ i ∧ i < 4) : ∃ s r b : Int, atI camL i = some (.tup [.int s, .int r, .int b]) ∧ six s ∧ (0 ≤ r ∧ r ≤ 4) ∧ (0 ≤ b ∧ b ≤ 2) ∧ b ≤ r ∧ 2 * (r + b) + 1 ≤ s := by
  have : i = 0 ∨ i = 1 ∨ i = 2 ∨ i = 3 := by omega
  rcases this with rfl | rfl | rfl | rfl <;> exact ⟨_, _, _, rfl, by unfold six; decide, by decide, by decide, by decide, by decide⟩
theorem gl_at {i : Int} (h : 0 ≤ i ∧ i < 5) : ∃ s : Int, atI [M.D.int 0, .int 0, .int 0, .int 1, .int 2] i = some (.int s) ∧ 0 ≤ s ∧ s ≤ 2 := by
  have : i = 0 ∨ i = 1 ∨ i = 2 ∨ i = 3 ∨ i = 4 := by omega
  rcases this with rfl | rfl | rfl | rfl | rfl <;> exact ⟨_, rfl, by decide⟩
theorem li_at {i : Int} (h : 0 ≤ i ∧ i < 6) : ∃ s : Int, atI [M.D.int 1, .int 1, .int 2, .int 4, .int 6, .int 9] i = some (.int s) ∧ 1 ≤ s ∧ s ≤ 9 := by
  have : i = 0 ∨ i = 1 ∨ i = 2 ∨ i = 3 ∨ i = 4 ∨ i = 5 := by omega
  rcases this with rfl | rfl | rfl | rfl | rfl | rfl <;> exact ⟨_, rfl, by decide⟩
theorem br_at {i u : Int} (h : 0 ≤ i ∧ i < 6) (hu : 1 ≤ u ∧ u ≤ 9) : ∃ s : Int, atI [M.D.int 5, .int 5, .int 3, .int 9, .int 7, .int u] i = some (.int s) ∧ 1 ≤ s ∧ s ≤ 9 := by
  have : i = 0 ∨ i = 1 ∨ i = 2 ∨ i = 3 ∨ i = 4 ∨ i = 5 := by omega
  rcases this with rfl | rfl | rfl | rfl | rfl | rfl
  · exact ⟨_, rfl, by decide⟩
  · exact ⟨_, rfl, by decide⟩
  · exact ⟨_, rfl, by decide⟩
  · exact ⟨_, rfl, by decide⟩
  · exact ⟨_, rfl, by decide⟩
  · exact ⟨_, rfl, hu⟩
theorem tu_at {i : Int} (h : 0 ≤ i ∧ i < 3) : ∃ s : Int, atI [M.D.int 1, .int 1, .int 4] i = some (.int s) ∧ 0 ≤ s ∧ s ≤ 4 := by
  have : i = 0 ∨ i = 1 ∨ i = 2 := by omega
  rcases this with rfl | rfl | rfl <;> exact ⟨_, rfl, by decide⟩
section
variable {s r b g l m0 m1 m2 at_ : Int} {N L C : M.D} {w : List (List Int)}
def kst (N L C : M.D) (at_ m0 m1 m2 s r b : Int) (w : List (List Int)) (k dr st tn : Sl) : ES := [.val N, .val (.int at_), .val L, .val (.int 3), .val C, .val (aD m0 m1 m2), .own (.lst (w.map tD)), k, .val (.int s), .val (.int r), .val (.int b), dr, st, tn]
theorem put_step {t : List Int} {k dr tn : Sl} (hs : 0 < s) (hw : Stars s 3 w) (ht : StarOk s t) : ∃ w' t', Stars s 3 w' ∧ StarOk s t' ∧
    evSs 100000 b0__law_sky (kst N L C at_ m0 m1 m2 s r b w k dr (.val (tD t)) tn) = .nx (kst N L C at_ m0 m1 m2 s r b w' k dr (.val (tD t')) tn) := by
  obtain ⟨x, y, z, rfl, hx⟩ := ht
  have h1 := lstar_ok (W := .lst []) (C := C) (x := x) (y := y) (z := z) (m0 := m0) (m1 := m1) (m2 := m2) hs
  unfold pD at h1
  have hst : StarOk s [mvX s x y m0 m2, mvY s x y m1 m2, z] := ⟨_, _, z, rfl, mo hs _, mo hs _, hx.2.2⟩
  have hin : cmpD .notin (.tup [.int x, .int y, .int z]) (.lst (w.map tD)) = .ok (!decide ([x, y, z] ∈ w)) := notin_t [x, y, z] w
  have hl : (w.map tD).length < 16777216 := by rw [List.length_map]; have := hw.2.1; omega
  have hT : tD [mvX s x y m0 m2, mvY s x y m1 m2, z] = .tup [.int (mvX s x y m0 m2), .int (mvY s x y m1 m2), .int z] := rfl
  have hT0 : tD [x, y, z] = .tup [.int x, .int y, .int z] := rfl
  have hlen : ((w.map tD).length : Int) = (w.length : Int) := by rw [List.length_map]
  by_cases hm : [x, y, z] ∈ w
  · refine ⟨w, _, hw, hst, ?_⟩
    rw [decide_eq_true hm] at hin
    unfold kst
    rw [hT, hT0]
    generalize w.map tD = V at *
    generalize aD m0 m1 m2 = A at *
    simp [evSs, evS, evE, evEs, evT, evAndT, evOrT, evAnd, evOr, evC, evO, evI, bindF, thenF, nxR, getv, getb, setv, bindP, setAll, ownD, putO, augF, frE, B1.fresh, runD, runM, outM, stF, st0, _root_.M.isNon, LIM, ev_bo, ev_be, ev_bb, ev_rs, ev_rn, ev_add, ev_sub, ev_mulr, ev_mull, ev_mod, ev_fdiv, ev_addl, ev_lt, ev_le, ev_gt, ev_ge, ev_eqi, ev_nei, ev_tb, ev_ti, ev_tn, ev_tl, ev_lenl, ev_lens, ev_lent, ev_abs, ev_int, ev_max2, ev_min2, ev_ai, ev_ixl, ev_ixs, ev_ixt, ev_sql, ev_sqs, ev_sqt, ev_rng, ev_rng2, ev_sl, ev_ss, b0__law_sky, hin, h1]
  · rw [decide_eq_false hm] at hin
    by_cases h8 : w.length < 3
    · refine ⟨w ++ [[x, y, z]], _, (hw.up (Nat.le_refl _) |> fun _ => ⟨(Stars.snoc ⟨hw.1, Nat.le_refl _, hw.2.2⟩ hm ⟨x, y, z, rfl, hx⟩).1, by rw [List.length_append]; simp only [List.length_cons, List.length_nil]; omega, (Stars.snoc ⟨hw.1, Nat.le_refl _, hw.2.2⟩ hm ⟨x, y, z, rfl, hx⟩).2.2⟩), hst, ?_⟩
      have h8' : (w.length : Int) < 3 := by omega
      rw [← hlen] at h8'
      unfold kst
      rw [hT, List.map_append, List.map_cons, List.map_nil, hT0]
      generalize w.map tD = V at *
      generalize aD m0 m1 m2 = A at *
      have h8n : V.length < 3 := by omega
      simp [evSs, evS, evE, evEs, evT, evAndT, evOrT, evAnd, evOr, evC, evO, evI, bindF, thenF, nxR, getv, getb, setv, bindP, setAll, ownD, putO, augF, frE, B1.fresh, runD, runM, outM, stF, st0, _root_.M.isNon, LIM, ev_bo, ev_be, ev_bb, ev_rs, ev_rn, ev_add, ev_sub, ev_mulr, ev_mull, ev_mod, ev_fdiv, ev_addl, ev_lt, ev_le, ev_gt, ev_ge, ev_eqi, ev_nei, ev_tb, ev_ti, ev_tn, ev_tl, ev_lenl, ev_lens, ev_lent, ev_abs, ev_int, ev_max2, ev_min2, ev_ai, ev_ixl, ev_ixs, ev_ixt, ev_sql, ev_sqs, ev_sqt, ev_rng, ev_rng2, ev_sl, ev_ss, b0__law_sky, hin, h1, hl, h8', h8n]
    · refine ⟨w, _, hw, hst, ?_⟩
      have h8' : ¬ (w.length : Int) < 3 := by omega
      rw [← hlen] at h8'
      unfold kst
      rw [hT, hT0]
      generalize w.map tD = V at *
      generalize aD m0 m1 m2 = A at *
      have h8n : ¬ V.length < 3 := by omega
      simp [evSs, evS, evE, evEs, evT, evAndT, evOrT, evAnd, evOr, evC, evO, evI, bindF, thenF, nxR, getv, getb, setv, bindP, setAll, ownD, putO, augF, frE, B1.fresh, runD, runM, outM, stF, st0, _root_.M.isNon, LIM, ev_bo, ev_be, ev_bb, ev_rs, ev_rn, ev_add, ev_sub, ev_mulr, ev_mull, ev_mod, ev_fdiv, ev_addl, ev_lt, ev_le, ev_gt, ev_ge, ev_eqi, ev_nei, ev_tb, ev_ti, ev_tn, ev_tl, ev_lenl, ev_lens, ev_lent, ev_abs, ev_int, ev_max2, ev_min2, ev_ai, ev_ixl, ev_ixs, ev_ixt, ev_sql, ev_sqs, ev_sqt, ev_rng, ev_rng2, ev_sl, ev_ss, b0__law_sky, hin, h1, h8', h8n]
theorem put_loop {t : List Int} {k dr tn : Sl} {n : Nat} (hs : 0 < s) (hw : Stars s 3 w) (ht : StarOk s t) (hn : okSl tn) : ∃ w' t' tn', Stars s 3 w' ∧ okSl tn' ∧
    forRun (bindP (.n 13)) (fun s => evSs 100000 b0__law_sky s) (intsTo 0 n) (kst N L C at_ m0 m1 m2 s r b w k dr (.val (tD t)) tn) = .nx (kst N L C at_ m0 m1 m2 s r b w' k dr (.val (tD t')) tn') := by
  obtain ⟨st', e, w', t', tn', hw', ht', hn', rfl⟩ := forRun_inv0 (bind := bindP (.n 13)) (body := fun s => evSs 100000 b0__law_sky s) (fun j st => ∃ w t tn, Stars s 3 w ∧ StarOk s t ∧ okSl tn ∧ st = kst N L C at_ m0 m1 m2 s r b w k dr (.val (tD t)) tn) (l := intsTo 0 n) (st := kst N L C at_ m0 m1 m2 s r b w k dr (.val (tD t)) tn) ⟨w, t, tn, hw, ht, hn, rfl⟩ (fun j x st hx hI => by
    obtain ⟨w, t, tn, hw, ht, hn, rfl⟩ := hI
    obtain ⟨w', t', hw', ht', e⟩ := put_step (N := N) (L := L) (C := C) (at_ := at_) (m0 := m0) (m1 := m1) (m2 := m2) (r := r) (b := b) (k := k) (dr := dr) (tn := .val x) hs hw ht
    refine ⟨_, _, ?_, e, w', t', .val x, hw', ht', .inr ⟨_, rfl⟩, rfl⟩
    rcases hn with rfl | ⟨z, rfl⟩ <;> rfl)
  exact ⟨w', t', tn', hw', hn', e⟩
theorem draw_step {m : Nat} {xs : List Int} {J : Int} {dr st tn : Sl} (hd : Drawn1 m xs) (h0 : 0 ≤ at_) (hJ : 0 ≤ J) (hm : at_ + 6 + J < m) (hs : 0 < s) (hw : Stars s 3 w) (hdr : okSl dr) (hst : okSl st) (hn : okSl tn) : ∃ w' dr' st' tn', Stars s 3 w' ∧ okSl dr' ∧ okSl st' ∧ okSl tn' ∧
    evSs 100000 b1__law_sky (kst (.lst (xs.map M.D.int)) L C at_ m0 m1 m2 s r b w (.val (.int J)) dr st tn) = .nx (kst (.lst (xs.map M.D.int)) L C at_ m0 m1 m2 s r b w' (.val (.int J)) dr' st' tn') := by
  obtain ⟨n1, a1, b1, c1⟩ := drawn_at hd (i := at_ + 1) (by omega) (by omega)
  obtain ⟨n, a, bb, cc⟩ := drawn_at hd (i := at_ + 6 + J) (by omega) (by omega)
  obtain ⟨z, ez, hz⟩ := br_at (i := n / 31 % 6) (u := 1 + n / 100 % 9) (by omega) (by omega)
  obtain ⟨tt, et, ht⟩ := tu_at (i := n1 / 30 % 3) (by omega)
  have hrg : rangeD (.int tt) = .ok (intsTo 0 tt.toNat) := ev_rng (by omega) (by omega)
  obtain ⟨w', t', tn', hw', hn', e⟩ := put_loop (N := .lst (xs.map M.D.int)) (L := L) (C := C) (at_ := at_) (m0 := m0) (m1 := m1) (m2 := m2) (r := r) (b := b) (k := .val (.int J)) (dr := .val (.int n)) (tn := tn) (n := tt.toNat) (t := [n % s, n / 11 % s, z]) hs hw ⟨_, _, z, rfl, mo hs _, mo hs _, hz⟩ hn
  refine ⟨w', .val (.int n), .val (tD t'), tn', hw', .inr ⟨_, rfl⟩, .inr ⟨_, rfl⟩, hn', ?_⟩
  have hT : tD [n % s, n / 11 % s, z] = .tup [.int (n % s), .int (n / 11 % s), .int z] := rfl
  rw [hT] at e
  unfold kst at e ⊢
  generalize intsTo 0 tt.toNat = IL at *
  generalize w.map tD = V at *
  generalize w'.map tD = V' at *
  generalize aD m0 m1 m2 = A at *
  rcases hdr with rfl | ⟨d, rfl⟩ <;> rcases hst with rfl | ⟨d2, rfl⟩ <;> simp [evSs, evS, evE, evEs, evT, evAndT, evOrT, evAnd, evOr, evC, evO, evI, bindF, thenF, nxR, getv, getb, setv, bindP, setAll, ownD, putO, augF, frE, B1.fresh, runD, runM, outM, stF, st0, _root_.M.isNon, LIM, ev_bo, ev_be, ev_bb, ev_rs, ev_rn, ev_add, ev_sub, ev_mulr, ev_mull, ev_mod, ev_fdiv, ev_addl, ev_lt, ev_le, ev_gt, ev_ge, ev_eqi, ev_nei, ev_tb, ev_ti, ev_tn, ev_tl, ev_lenl, ev_lens, ev_lent, ev_abs, ev_int, ev_max2, ev_min2, ev_ai, ev_ixl, ev_ixs, ev_ixt, ev_sql, ev_sqs, ev_sqt, ev_rng, ev_rng2, ev_sl, ev_ss, b1__law_sky, a, a1, ez, et, hrg, hs, e]
theorem sky_drawn {m : Nat} {xs : List Int} (hd : Drawn1 m xs) (hm : 9 < m) : ∃ s w r b g l, six s ∧ Stars s 3 w ∧ CamOk s r b g l ∧ F__law_sky [.lst (xs.map M.D.int), .int 0, .lst camL, .int 3] = .ok (pD s (.lst (w.map tD)) (.tup [.int r, .int b, .int g, .int l])) := by
  obtain ⟨n0, a0, b0, c0⟩ := drawn_at hd (i := 0) (by omega) (by omega)
  obtain ⟨n1, a1, b1, c1⟩ := drawn_at hd (i := 1) (by omega) (by omega)
  obtain ⟨n5, a5, b5, c5⟩ := drawn_at hd (i := 5) (by omega) (by omega)
  obtain ⟨s, r, b, es, h, hr, hb, hbr, hrb⟩ := cam_at (i := n0 % 4) (by omega)
  obtain ⟨g, eg, hg⟩ := gl_at (i := n1 % 5) (by omega)
  obtain ⟨l, el, hl⟩ := li_at (i := n1 / 5 % 6) (by omega)
  have hs : 0 < s := by rcases h with rfl | rfl | rfl | rfl | rfl | rfl <;> decide
  obtain ⟨m0, m1, m2, hM, eM⟩ := lmotion_ok (W := .lst []) (C := .tup [.int r, .int b, .int g, .int l]) hs hd (at_ := 2) (by decide) (by omega)
  unfold pD at eM
  have hrg : rangeD (.int (n5 % 4)) = .ok (intsTo 0 (n5 % 4).toNat) := ev_rng (by omega) (by omega)
  obtain ⟨st', e, w, k, dr, st, tn, hw, _, _, _, _, rfl⟩ := forRun_inv0 (bind := bindP (.n 7)) (body := fun s => evSs 100000 b1__law_sky s) (fun j z => ∃ w k dr st tn, Stars s 3 w ∧ okSl k ∧ okSl dr ∧ okSl st ∧ okSl tn ∧ z = kst (.lst (xs.map M.D.int)) (.lst camL) (.tup [.int r, .int b, .int g, .int l]) 0 m0 m1 m2 s r b w k dr st tn) (l := intsTo 0 (n5 % 4).toNat)
    (st := kst (.lst (xs.map M.D.int)) (.lst camL) (.tup [.int r, .int b, .int g, .int l]) 0 m0 m1 m2 s r b [] .un .un .un .un) ⟨[], .un, .un, .un, .un, ⟨List.nodup_nil, Nat.zero_le _, fun _ h => by cases h⟩, .inl rfl, .inl rfl, .inl rfl, .inl rfl, rfl⟩ (fun j x z hx hI => by
    obtain ⟨w, k, dr, st, tn, hw, g1, g2, g3, g4, rfl⟩ := hI
    obtain ⟨hj, rfl⟩ := intsTo_get hx
    obtain ⟨w', dr', st', tn', hw', j1, j2, j3, e⟩ := draw_step (m := m) (xs := xs) (J := 0 + (j : Int)) (at_ := 0) (m0 := m0) (m1 := m1) (m2 := m2) (s := s) (r := r) (b := b) (w := w) (L := .lst camL) (C := .tup [.int r, .int b, .int g, .int l]) hd (by decide) (by omega) (by omega) hs hw g2 g3 g4
    refine ⟨_, _, ?_, e, w', .val (.int (0 + (j : Int))), dr', st', tn', hw', .inr ⟨_, rfl⟩, j1, j2, j3, rfl⟩
    rcases g1 with rfl | ⟨z, rfl⟩ <;> rfl)
  refine ⟨s, w, r, b, g, l, h, hw, ⟨hr, hb, hbr, hrb, hg, hl⟩, ?_⟩
  have hcl : b1D .len (.lst camL) = .ok (.int 4) := rfl
  have hci : idxD (.lst camL) (.int (n0 % 4)) = .ok (.tup [.int s, .int r, .int b]) := by rw [ev_ixl, es]; rfl
  unfold kst at e
  rw [List.map_nil] at e
  unfold F__law_sky pD
  have hcll : ((camL.length : Nat) : Int) = 4 := rfl
  generalize camL = CL at *
  generalize intsTo 0 (n5 % 4).toNat = IL at *
  generalize w.map tD = V at *
  generalize aD m0 m1 m2 = A at *
  simp [evSs, evS, evE, evEs, evT, evAndT, evOrT, evAnd, evOr, evC, evO, evI, bindF, thenF, nxR, getv, getb, setv, bindP, setAll, ownD, putO, augF, frE, B1.fresh, runD, runM, outM, stF, st0, _root_.M.isNon, LIM, ev_bo, ev_be, ev_bb, ev_rs, ev_rn, ev_add, ev_sub, ev_mulr, ev_mull, ev_mod, ev_fdiv, ev_addl, ev_lt, ev_le, ev_gt, ev_ge, ev_eqi, ev_nei, ev_tb, ev_ti, ev_tn, ev_tl, ev_lenl, ev_lens, ev_lent, ev_abs, ev_int, ev_max2, ev_min2, ev_ai, ev_ixl, ev_ixs, ev_ixt, ev_sql, ev_sqs, ev_sqt, ev_rng, ev_rng2, ev_sl, ev_ss, ir__law_sky, a0, a1, a5, hcll, es, eg, el, eM, hrg, e]
end
end K47
set_option Elab.async false
set_option linter.all false
set_option maxRecDepth 100000
set_option maxHeartbeats 4000000
/-! Attitudes to which a command with slips leads, by the program and by the law. -/
namespace K47
open PySem L2 M
def CmdOk (u v k : Int) : Prop := (-3 ≤ u ∧ u ≤ 3) ∧ (-3 ≤ v ∧ v ≤ 3) ∧ 0 ≤ k ∧ k ≤ 3
theorem cu_at {i : Int} (h : 0 ≤ i ∧ i < 8) : ∃ s : Int, atI [M.D.int 0, .int 1, .int 0, .int (-1), .int 2, .int (-3), .int 1, .int 3] i = some (.int s) ∧ -3 ≤ s ∧ s ≤ 3 := by
  have : i = 0 ∨ i = 1 ∨ i = 2 ∨ i = 3 ∨ i = 4 ∨ i = 5 ∨ i = 6 ∨ i = 7 := by omega
  rcases this with rfl | rfl | rfl | rfl | rfl | rfl | rfl | rfl <;> exact ⟨_, rfl, by decide⟩
theorem cv_at {i : Int} (h : 0 ≤ i ∧ i < 7) : ∃ s : Int, atI [M.D.int 0, .int 1, .int (-2), .int 0, .int 1, .int 0, .int 3] i = some (.int s) ∧ -3 ≤ s ∧ s ≤ 3 := by
  have : i = 0 ∨ i = 1 ∨ i = 2 ∨ i = 3 ∨ i = 4 ∨ i = 5 ∨ i = 6 := by omega
  rcases this with rfl | rfl | rfl | rfl | rfl | rfl | rfl <;> exact ⟨_, rfl, by decide⟩
theorem ck_at {i : Int} (h : 0 ≤ i ∧ i < 6) : ∃ s : Int, atI [M.D.int 0, .int 0, .int 0, .int 1, .int 2, .int 3] i = some (.int s) ∧ 0 ≤ s ∧ s ≤ 3 := by
  have : i = 0 ∨ i = 1 ∨ i = 2 ∨ i = 3 ∨ i = 4 ∨ i = 5 := by omega
  rcases this with rfl | rfl | rfl | rfl | rfl | rfl <;> exact ⟨_, rfl, by decide⟩
theorem lcmd_ok {m : Nat} {xs : List Int} {at_ : Int} (hd : Drawn1 m xs) (h0 : 0 ≤ at_) (hm : at_ < m) : ∃ u v k, CmdOk u v k ∧ F__law_command [.lst (xs.map M.D.int), .int at_] = .ok (aD u v k) := by
  obtain ⟨n, a0, b0, c0⟩ := drawn_at hd (i := at_) (by omega) (by omega)
  obtain ⟨u, eu, hu⟩ := cu_at (i := n % 8) (by omega)
  obtain ⟨v, ev, hv⟩ := cv_at (i := n / 8 % 7) (by omega)
  obtain ⟨k, ek, hk⟩ := ck_at (i := n / 56 % 6) (by omega)
  refine ⟨u, v, k, ⟨hu, hv, hk⟩, ?_⟩
  unfold F__law_command aD
  simp [evSs, evS, evE, evEs, evT, evAndT, evOrT, evAnd, evOr, evC, evO, evI, bindF, thenF, nxR, getv, getb, setv, bindP, setAll, ownD, putO, augF, frE, B1.fresh, runD, runM, outM, stF, st0, _root_.M.isNon, LIM, ev_bo, ev_be, ev_bb, ev_rs, ev_rn, ev_add, ev_sub, ev_mulr, ev_mull, ev_mod, ev_fdiv, ev_addl, ev_lt, ev_le, ev_gt, ev_ge, ev_eqi, ev_nei, ev_tb, ev_ti, ev_tn, ev_tl, ev_lenl, ev_lens, ev_lent, ev_abs, ev_int, ev_max2, ev_min2, ev_ai, ev_ixl, ev_ixs, ev_ixt, ev_sql, ev_sqs, ev_sqt, ev_rng, ev_rng2, ev_sl, ev_ss, ir__law_command, a0, eu, ev, ek]
section
variable {s r b g l a c q u v k : Int} {w : List (List Int)} {W C : M.D}
theorem latt_ok (hs : 0 < s) {m : Nat} {xs : List Int} {at_ : Int} (hd : Drawn1 m xs) (h0 : 0 ≤ at_) (hm : at_ < m) : ∃ a c q, AttOk s a c q ∧ F__law_attitude [pD s W C, .lst (xs.map M.D.int), .int at_] = .ok (aD a c q) := by
  obtain ⟨n, a0, b0, c0⟩ := drawn_at hd (i := at_) (by omega) (by omega)
  refine ⟨n % s, n / 9 % s, n / 81 % 4, ⟨mo hs _, mo hs _, by omega⟩, ?_⟩
  unfold F__law_attitude aD pD
  simp [evSs, evS, evE, evEs, evT, evAndT, evOrT, evAnd, evOr, evC, evO, evI, bindF, thenF, nxR, getv, getb, setv, bindP, setAll, ownD, putO, augF, frE, B1.fresh, runD, runM, outM, stF, st0, _root_.M.isNon, LIM, ev_bo, ev_be, ev_bb, ev_rs, ev_rn, ev_add, ev_sub, ev_mulr, ev_mull, ev_mod, ev_fdiv, ev_addl, ev_lt, ev_le, ev_gt, ev_ge, ev_eqi, ev_nei, ev_tb, ev_ti, ev_tn, ev_tl, ev_lenl, ev_lens, ev_lent, ev_abs, ev_int, ev_max2, ev_min2, ev_ai, ev_ixl, ev_ixs, ev_ixt, ev_sql, ev_sqs, ev_sqt, ev_rng, ev_rng2, ev_sl, ev_ss, ir__law_attitude, a0, p0, hs]
theorem lcom_ok (hs : 0 < s) : F__law_commanded [pD s W C, aD a c q, aD u v k] = .ok (aD ((a + rX q u v) % s) ((c + rY q u v) % s) ((q + k) % 4)) := by
  have h1 := turned_ok q u v
  unfold F__law_commanded aD pD
  generalize rX q u v = U at *
  generalize rY q u v = V at *
  simp [evSs, evS, evE, evEs, evT, evAndT, evOrT, evAnd, evOr, evC, evO, evI, bindF, thenF, nxR, getv, getb, setv, bindP, setAll, ownD, putO, augF, frE, B1.fresh, runD, runM, outM, stF, st0, _root_.M.isNon, LIM, ev_bo, ev_be, ev_bb, ev_rs, ev_rn, ev_add, ev_sub, ev_mulr, ev_mull, ev_mod, ev_fdiv, ev_addl, ev_lt, ev_le, ev_gt, ev_ge, ev_eqi, ev_nei, ev_tb, ev_ti, ev_tn, ev_tl, ev_lenl, ev_lens, ev_lent, ev_abs, ev_int, ev_max2, ev_min2, ev_ai, ev_ixl, ev_ixs, ev_ixt, ev_sql, ev_sqs, ev_sqt, ev_rng, ev_rng2, ev_sl, ev_ss, ir__law_commanded, h1, p0, at0, at1, at2, hs]
theorem pturned_ok (q x y : Int) : F_turned [.int q, .tup [.int x, .int y]] = .ok (.tup [.int (rX q x y), .int (rY q x y)]) := by
  have hq : q % 4 = 0 ∨ q % 4 = 1 ∨ q % 4 = 2 ∨ q % 4 = 3 := by omega
  unfold F_turned rX rY
  have i0 : intsTo 0 0 = [] := rfl
  have i1 : intsTo 0 1 = [.int 0] := rfl
  have i2 : intsTo 0 2 = [.int 0, .int 1] := rfl
  have i3 : intsTo 0 3 = [.int 0, .int 1, .int 2] := rfl
  rcases hq with h | h | h | h
  · simp [evSs, evS, evE, evEs, evT, evAndT, evOrT, evAnd, evOr, evC, evO, evI, bindF, thenF, nxR, getv, getb, setv, bindP, setAll, ownD, putO, augF, frE, B1.fresh, runD, runM, outM, stF, st0, _root_.M.isNon, LIM, ev_bo, ev_be, ev_bb, ev_rs, ev_rn, ev_add, ev_sub, ev_mulr, ev_mull, ev_mod, ev_fdiv, ev_addl, ev_lt, ev_le, ev_gt, ev_ge, ev_eqi, ev_nei, ev_tb, ev_ti, ev_tn, ev_tl, ev_lenl, ev_lens, ev_lent, ev_abs, ev_int, ev_max2, ev_min2, ev_ai, ev_ixl, ev_ixs, ev_ixt, ev_sql, ev_sqs, ev_sqt, ev_rng, ev_rng2, ev_sl, ev_ss, ir_turned, h, i0, forRun]
  · simp [evSs, evS, evE, evEs, evT, evAndT, evOrT, evAnd, evOr, evC, evO, evI, bindF, thenF, nxR, getv, getb, setv, bindP, setAll, ownD, putO, augF, frE, B1.fresh, runD, runM, outM, stF, st0, _root_.M.isNon, LIM, ev_bo, ev_be, ev_bb, ev_rs, ev_rn, ev_add, ev_sub, ev_mulr, ev_mull, ev_mod, ev_fdiv, ev_addl, ev_lt, ev_le, ev_gt, ev_ge, ev_eqi, ev_nei, ev_tb, ev_ti, ev_tn, ev_tl, ev_lenl, ev_lens, ev_lent, ev_abs, ev_int, ev_max2, ev_min2, ev_ai, ev_ixl, ev_ixs, ev_ixt, ev_sql, ev_sqs, ev_sqt, ev_rng, ev_rng2, ev_sl, ev_ss, ir_turned, h, i1, forRun, b0_turned]
  · simp [evSs, evS, evE, evEs, evT, evAndT, evOrT, evAnd, evOr, evC, evO, evI, bindF, thenF, nxR, getv, getb, setv, bindP, setAll, ownD, putO, augF, frE, B1.fresh, runD, runM, outM, stF, st0, _root_.M.isNon, LIM, ev_bo, ev_be, ev_bb, ev_rs, ev_rn, ev_add, ev_sub, ev_mulr, ev_mull, ev_mod, ev_fdiv, ev_addl, ev_lt, ev_le, ev_gt, ev_ge, ev_eqi, ev_nei, ev_tb, ev_ti, ev_tn, ev_tl, ev_lenl, ev_lens, ev_lent, ev_abs, ev_int, ev_max2, ev_min2, ev_ai, ev_ixl, ev_ixs, ev_ixt, ev_sql, ev_sqs, ev_sqt, ev_rng, ev_rng2, ev_sl, ev_ss, ir_turned, h, i2, forRun, b0_turned]
  · simp [evSs, evS, evE, evEs, evT, evAndT, evOrT, evAnd, evOr, evC, evO, evI, bindF, thenF, nxR, getv, getb, setv, bindP, setAll, ownD, putO, augF, frE, B1.fresh, runD, runM, outM, stF, st0, _root_.M.isNon, LIM, ev_bo, ev_be, ev_bb, ev_rs, ev_rn, ev_add, ev_sub, ev_mulr, ev_mull, ev_mod, ev_fdiv, ev_addl, ev_lt, ev_le, ev_gt, ev_ge, ev_eqi, ev_nei, ev_tb, ev_ti, ev_tn, ev_tl, ev_lenl, ev_lens, ev_lent, ev_abs, ev_int, ev_max2, ev_min2, ev_ai, ev_ixl, ev_ixs, ev_ixt, ev_sql, ev_sqs, ev_sqt, ev_rng, ev_rng2, ev_sl, ev_ss, ir_turned, h, i3, forRun, b0_turned]
end
end K47
set_option Elab.async false
set_option linter.all false
set_option maxRecDepth 100000
set_option maxHeartbeats 4000000
/-! Attitudes and commands as a group; what commands reach. -/
namespace K47
open PySem L2 M
theorem len_le {α : Type} [DecidableEq α] : ∀ {l m : List α}, l.Nodup → (∀ x ∈ l, x ∈ m) → l.length ≤ m.length
  | [], m, _, _ => Nat.zero_le _
  | x :: l, m, hl, h => by
    obtain ⟨h1, h2⟩ := List.nodup_cons.mp hl
    have hx : x ∈ m := h x List.mem_cons_self
    have := len_le (m := m.erase x) h2 fun y hy => (List.mem_erase_of_ne (fun e : y = x => h1 (by rw [← e]; exact hy))).mpr (h y (List.mem_cons_of_mem _ hy))
    rw [List.length_erase_of_mem hx] at this
    have := List.length_pos_of_mem hx
    rw [List.length_cons]
    omega
def isA (s : Int) (t : List Int) : Prop := ∃ a c q, t = [a, c, q] ∧ AttOk s a c q
def isC3 (t : List Int) : Prop := ∃ u v k, t = [u, v, k] ∧ CmdOk u v k
def tri3 (t : List Int) : Prop := ∃ x y z, t = [x, y, z]
/-- the attitude to which a command leads -/
def act (s : Int) (t c : List Int) : List Int := match t, c with
  | [a, b, q], [u, v, k] => [(a + rX q u v) % s, (b + rY q u v) % s, (q + k) % 4]
  | _, _ => []
theorem isA_tri {s : Int} {t : List Int} (h : isA s t) : tri3 t := by
  obtain ⟨a, c, q, rfl, _⟩ := h
  exact ⟨a, c, q, rfl⟩
theorem isC_tri {t : List Int} (h : isC3 t) : tri3 t := by
  obtain ⟨a, c, q, rfl, _⟩ := h
  exact ⟨a, c, q, rfl⟩
theorem act_A {s : Int} (hs : 0 < s) {t c : List Int} (h : tri3 t) (hc : tri3 c) : isA s (act s t c) := by
  obtain ⟨a, b, q, rfl⟩ := h
  obtain ⟨u, v, k, rfl⟩ := hc
  exact ⟨_, _, _, rfl, mo hs _, mo hs _, by omega⟩
theorem act_assoc {s : Int} {t w c : List Int} (h : tri3 t) (hw : tri3 w) (hc : tri3 c) : act s (act s t w) c = act s t (act s w c) := by
  obtain ⟨a, b, q, rfl⟩ := h
  obtain ⟨x, y, p, rfl⟩ := hw
  obtain ⟨u, v, k, rfl⟩ := hc
  show [((a + rX q x y) % s + rX ((q + p) % 4) u v) % s, ((b + rY q x y) % s + rY ((q + p) % 4) u v) % s, ((q + p) % 4 + k) % 4] =
    [(a + rX q ((x + rX p u v) % s) ((y + rY p u v) % s)) % s, (b + rY q ((x + rX p u v) % s) ((y + rY p u v) % s)) % s, (q + (p + k) % 4) % 4]
  have e1 : (a + rX q ((x + rX p u v) % s) ((y + rY p u v) % s)) % s = (a + rX q (x + rX p u v) (y + rY p u v)) % s := by
    rw [Int.add_comm a, rXm, Int.add_comm _ a]
  have e2 : (b + rY q ((x + rX p u v) % s) ((y + rY p u v) % s)) % s = (b + rY q (x + rX p u v) (y + rY p u v)) % s := by
    rw [Int.add_comm b, rYm, Int.add_comm _ b]
  rw [e1, e2, mp, mp, rX_mod, rY_mod, rXa, rYa, rXX, rYY, Int.add_comm p q]
  have h1 : a + rX q x y + rX (q + p) u v = a + (rX q x y + rX (q + p) u v) := Int.add_assoc _ _ _
  have h2 : b + rY q x y + rY (q + p) u v = b + (rY q x y + rY (q + p) u v) := Int.add_assoc _ _ _
  have h3 : ((q + p) % 4 + k) % 4 = (q + (p + k) % 4) % 4 := by omega
  rw [h1, h2, h3]
def e3 : List Int := [0, 0, 0]
theorem tri_e : tri3 e3 := ⟨0, 0, 0, rfl⟩
theorem act_er {s : Int} {t : List Int} (h : isA s t) : act s t e3 = t := by
  obtain ⟨a, b, q, rfl, h1, h2, h3⟩ := h
  show [(a + rX q 0 0) % s, (b + rY q 0 0) % s, (q + 0) % 4] = _
  have x0 : rX q 0 0 = 0 := by unfold rX; split <;> (try split) <;> (try split) <;> rfl
  have y0 : rY q 0 0 = 0 := by unfold rY; split <;> (try split) <;> (try split) <;> rfl
  rw [x0, y0, Int.add_zero, Int.add_zero, Int.emod_eq_of_lt h1.1 h1.2, Int.emod_eq_of_lt h2.1 h2.2, Int.add_zero, Int.emod_eq_of_lt h3.1 (by omega)]
theorem act_el {s : Int} {t : List Int} (h : isA s t) : act s e3 t = t := by
  obtain ⟨a, b, q, rfl, h1, h2, h3⟩ := h
  show [(0 + rX 0 a b) % s, (0 + rY 0 a b) % s, (0 + q) % 4] = _
  rw [r0X, r0Y, Int.zero_add, Int.zero_add, Int.zero_add, Int.emod_eq_of_lt h1.1 h1.2, Int.emod_eq_of_lt h2.1 h2.2, Int.emod_eq_of_lt h3.1 (by omega)]
def inv3 (s : Int) (t : List Int) : List Int := match t with
  | [a, b, q] => [rX (-q) (-a) (-b) % s, rY (-q) (-a) (-b) % s, (-q) % 4]
  | _ => []
theorem inv_A {s : Int} (hs : 0 < s) {t : List Int} (h : isA s t) : isA s (inv3 s t) := by
  obtain ⟨a, b, q, rfl, _⟩ := h
  exact ⟨_, _, _, rfl, mo hs _, mo hs _, by omega⟩
theorem inv_l {s : Int} (hs : 0 < s) {t : List Int} (h : isA s t) : act s (inv3 s t) t = e3 := by
  obtain ⟨a, b, q, rfl, h1, h2, h3⟩ := h
  show [(rX (-q) (-a) (-b) % s + rX ((-q) % 4) a b) % s, (rY (-q) (-a) (-b) % s + rY ((-q) % 4) a b) % s, ((-q) % 4 + q) % 4] = _
  rw [mp, mp, rX_mod, rY_mod, rXn, rYn]
  have x1 : -rX (-q) a b + rX (-q) a b = 0 := by omega
  have y1 : -rY (-q) a b + rY (-q) a b = 0 := by omega
  rw [x1, y1, Int.zero_emod]
  have : ((-q) % 4 + q) % 4 = 0 := by omega
  rw [this]; rfl
/-- what takes one to another -/
theorem take_to {s : Int} (hs : 0 < s) {t g : List Int} (h : isA s t) (hg : isA s g) : ∃ m, isA s m ∧ act s m t = g := by
  refine ⟨act s g (inv3 s t), act_A hs (isA_tri hg) (isA_tri (inv_A hs h)), ?_⟩
  rw [act_assoc (isA_tri hg) (isA_tri (inv_A hs h)) (isA_tri h), inv_l hs h, act_er hg]
theorem act_inj {s : Int} (hs : 0 < s) {m t u : List Int} (hm : isA s m) (ht : isA s t) (hu : isA s u) (e : act s m t = act s m u) : t = u := by
  have h1 : act s (inv3 s m) (act s m t) = t := by rw [← act_assoc (isA_tri (inv_A hs hm)) (isA_tri hm) (isA_tri ht), inv_l hs hm, act_el ht]
  have h2 : act s (inv3 s m) (act s m u) = u := by rw [← act_assoc (isA_tri (inv_A hs hm)) (isA_tri hm) (isA_tri hu), inv_l hs hm, act_el hu]
  rw [← h1, e, h2]
/-! ### rows -/
def run (s : Int) (t : List Int) (r : List (List Int)) : List Int := r.foldl (act s) t
theorem run_A {s : Int} (hs : 0 < s) : ∀ {r : List (List Int)} {t : List Int}, isA s t → (∀ c ∈ r, tri3 c) → isA s (run s t r)
  | [], t, h, _ => h
  | c :: r, t, h, hr => by
    show isA s (run s (act s t c) r)
    exact run_A hs (act_A hs (isA_tri h) (hr c List.mem_cons_self)) fun d hd => hr d (List.mem_cons_of_mem _ hd)
theorem run_app {s : Int} {t : List Int} {r q : List (List Int)} : run s t (r ++ q) = run s (run s t r) q := List.foldl_append
theorem run_act {s : Int} {m : List Int} : ∀ {r : List (List Int)} {t : List Int}, 0 < s → tri3 m → tri3 t → (∀ c ∈ r, tri3 c) → run s (act s m t) r = act s m (run s t r)
  | [], t, _, _, _, _ => rfl
  | c :: r, t, hs, hm, ht, hr => by
    show run s (act s (act s m t) c) r = act s m (run s (act s t c) r)
    rw [act_assoc hm ht (hr c List.mem_cons_self)]
    exact run_act hs hm (isA_tri (act_A hs ht (hr c List.mem_cons_self))) fun d hd => hr d (List.mem_cons_of_mem _ hd)
/-- a row as one command -/
theorem run_one {s : Int} (hs : 0 < s) {t : List Int} {r : List (List Int)} (ht : isA s t) (hr : ∀ c ∈ r, tri3 c) : act s t (run s e3 r) = run s t r := by
  have := run_act (s := s) (m := t) (r := r) (t := e3) hs (isA_tri ht) tri_e hr
  rw [act_er ht] at this
  exact this.symm
/-! ### what is reached, step by step -/
structure BS where
  O : List (List Int)
  PV : List (Option (List Int × List Int))
  RV : List (List (List Int))
def stepB (s : Int) (x : List Int) (rx : List (List Int)) (S : BS) (c : List Int) : BS :=
  if act s x c ∈ S.O then S else ⟨S.O ++ [act s x c], S.PV ++ [some (x, c)], S.RV ++ [rx ++ [c]]⟩
def bfs (s : Int) (cs : List (List Int)) : Nat → Nat → BS → BS
  | 0, _, S => S
  | n + 1, i, S => match S.O[i]?, S.RV[i]? with
    | some x, some rx => bfs s cs n (i + 1) (cs.foldl (stepB s x rx) S)
    | _, _ => S
structure BI (s : Int) (t0 : List Int) (cs : List (List Int)) (n : Nat) (S : BS) : Prop where
  nd : S.O.Nodup
  at_ : ∀ t ∈ S.O, isA s t
  l1 : S.PV.length = S.O.length
  l2 : S.RV.length = S.O.length
  hd : S.O[0]? = some t0
  rows : ∀ (i : Nat) (r : List (List Int)), S.RV[i]? = some r → ∃ t, S.O[i]? = some t ∧ run s t0 r = t ∧ ∀ c ∈ r, c ∈ cs
  par : ∀ i : Nat, i < S.O.length → (i = 0 ∧ S.PV[0]? = some none ∧ S.RV[0]? = some []) ∨ ∃ (j : Nat) (p c : List Int) (r : List (List Int)), j < i ∧ S.O[j]? = some p ∧ S.PV[i]? = some (some (p, c)) ∧ S.RV[j]? = some r ∧ S.RV[i]? = some (r ++ [c])
  cl : ∀ (i : Nat) (t : List Int), i < n → S.O[i]? = some t → ∀ c ∈ cs, act s t c ∈ S.O
/-- it grows -/
def Grows (S S' : BS) : Prop := (∃ o, S'.O = S.O ++ o) ∧ (∃ p, S'.PV = S.PV ++ p) ∧ ∃ r, S'.RV = S.RV ++ r
theorem Grows.refl (S : BS) : Grows S S := ⟨⟨[], by simp⟩, ⟨[], by simp⟩, ⟨[], by simp⟩⟩
theorem Grows.trans {A B C : BS} (h : Grows A B) (k : Grows B C) : Grows A C := by
  obtain ⟨⟨o, h1⟩, ⟨p, h2⟩, r, h3⟩ := h
  obtain ⟨⟨o', k1⟩, ⟨p', k2⟩, r', k3⟩ := k
  exact ⟨⟨o ++ o', by rw [k1, h1, List.append_assoc]⟩, ⟨p ++ p', by rw [k2, h2, List.append_assoc]⟩, ⟨r ++ r', by rw [k3, h3, List.append_assoc]⟩⟩
theorem get_app {α : Type} {l m : List α} {i : Nat} {x : α} (h : l[i]? = some x) : (l ++ m)[i]? = some x := by
  rw [List.getElem?_append_left (List.getElem?_eq_some_iff.mp h).1]; exact h
theorem step_BI {s : Int} (hs : 0 < s) {t0 x c : List Int} {cs rx : List (List Int)} {n j : Nat} {S : BS} (hB : BI s t0 cs n S) (hx : S.O[j]? = some x) (hr : S.RV[j]? = some rx) (hc : c ∈ cs) (hct : ∀ c ∈ cs, tri3 c) :
    BI s t0 cs n (stepB s x rx S c) ∧ Grows S (stepB s x rx S c) ∧ act s x c ∈ (stepB s x rx S c).O := by
  unfold stepB
  by_cases h : act s x c ∈ S.O
  · rw [if_pos h]
    exact ⟨hB, Grows.refl S, h⟩
  · rw [if_neg h]
    have hxA := hB.at_ x (List.mem_of_getElem? hx)
    have hjl := (List.getElem?_eq_some_iff.mp hx).1
    refine ⟨⟨?_, ?_, by simp [hB.l1], by simp [hB.l2], get_app hB.hd, ?_, ?_, ?_⟩, ⟨⟨_, rfl⟩, ⟨_, rfl⟩, ⟨_, rfl⟩⟩, List.mem_append_right _ List.mem_cons_self⟩
    · refine List.nodup_append.mpr ⟨hB.nd, List.nodup_cons.mpr ⟨List.not_mem_nil, List.nodup_nil⟩, fun a ha b hb e => ?_⟩
      rw [List.mem_singleton.mp hb] at e
      exact h (e ▸ ha)
    · intro t ht
      rcases List.mem_append.mp ht with ht | ht
      · exact hB.at_ t ht
      · rw [List.mem_singleton.mp ht]
        exact act_A hs (isA_tri hxA) (hct c hc)
    · intro i r hir
      by_cases hi : i < S.RV.length
      · rw [List.getElem?_append_left hi] at hir
        obtain ⟨t, h1, h2, h3⟩ := hB.rows i r hir
        exact ⟨t, get_app h1, h2, h3⟩
      · have hi2 := (List.getElem?_eq_some_iff.mp hir).1
        rw [List.length_append] at hi2
        simp only [List.length_cons, List.length_nil] at hi2
        have : i = S.RV.length := by omega
        subst this
        rw [List.getElem?_append_right (Nat.le_refl _), Nat.sub_self] at hir
        have hir : rx ++ [c] = r := by simpa using hir
        subst hir
        obtain ⟨t, h1, h2, h3⟩ := hB.rows j rx hr
        rw [hx] at h1
        cases h1
        refine ⟨act s x c, ?_, ?_, fun d hd => ?_⟩
        · rw [hB.l2, List.getElem?_append_right (Nat.le_refl _), Nat.sub_self]; rfl
        · rw [run_app, h2]; rfl
        · rcases List.mem_append.mp hd with hd | hd
          · exact h3 d hd
          · rw [List.mem_singleton.mp hd]; exact hc
    · intro i hi
      rw [List.length_append] at hi
      simp only [List.length_cons, List.length_nil] at hi
      by_cases hio : i < S.O.length
      · rcases hB.par i hio with ⟨h1, h2, h3⟩ | ⟨j', p, c', r, h1, h2, h3, h4, h5⟩
        · exact .inl ⟨h1, get_app h2, get_app h3⟩
        · exact .inr ⟨j', p, c', r, h1, get_app h2, get_app h3, get_app h4, get_app h5⟩
      · have : i = S.O.length := by omega
        subst this
        refine .inr ⟨j, x, c, rx, hjl, get_app hx, ?_, get_app hr, ?_⟩
        · rw [← hB.l1, List.getElem?_append_right (Nat.le_refl _), Nat.sub_self]; rfl
        · rw [← hB.l2, List.getElem?_append_right (Nat.le_refl _), Nat.sub_self]; rfl
    · intro i t hi ht d hd
      have hio : i < S.O.length ∨ ¬ i < S.O.length := Nat.lt_or_ge i _ |>.imp id fun z => Nat.not_lt.mpr z
      rcases hio with hio | hio
      · rw [List.getElem?_append_left hio] at ht
        exact List.mem_append_left _ (hB.cl i t hi ht d hd)
      · have hi2 := (List.getElem?_eq_some_iff.mp ht).1
        rw [List.length_append] at hi2
        simp only [List.length_cons, List.length_nil] at hi2
        have : i = S.O.length := by omega
        subst this
        exact absurd (hB.cl j x (by omega) hx c hc) h
theorem fold_BI {s : Int} (hs : 0 < s) {t0 x : List Int} {cs rx : List (List Int)} {n j : Nat} (hct : ∀ c ∈ cs, tri3 c) : ∀ (l : List (List Int)) (S : BS), (∀ c ∈ l, c ∈ cs) → BI s t0 cs n S → S.O[j]? = some x → S.RV[j]? = some rx →
    BI s t0 cs n (l.foldl (stepB s x rx) S) ∧ Grows S (l.foldl (stepB s x rx) S) ∧ ∀ c ∈ l, act s x c ∈ (l.foldl (stepB s x rx) S).O
  | [], S, _, hB, _, _ => ⟨hB, Grows.refl S, fun _ h => by cases h⟩
  | c :: l, S, hl, hB, hx, hr => by
    obtain ⟨h1, h2, h3⟩ := step_BI hs hB hx hr (hl c List.mem_cons_self) hct
    obtain ⟨⟨o, e1⟩, _, r, e3⟩ := id h2
    obtain ⟨k1, k2, k3⟩ := fold_BI hs hct l (stepB s x rx S c) (fun d hd => hl d (List.mem_cons_of_mem _ hd)) h1 (by rw [e1]; exact get_app hx) (by rw [e3]; exact get_app hr)
    refine ⟨k1, h2.trans k2, fun d hd => ?_⟩
    rcases List.mem_cons.mp hd with rfl | hd
    · obtain ⟨⟨o', e⟩, _⟩ := k2
      rw [List.foldl_cons, e]
      exact List.mem_append_left _ h3
    · exact k3 d hd
theorem next_BI {s : Int} (hs : 0 < s) {t0 x : List Int} {cs rx : List (List Int)} {n : Nat} {S : BS} (hct : ∀ c ∈ cs, tri3 c) (hB : BI s t0 cs n S) (hx : S.O[n]? = some x) (hr : S.RV[n]? = some rx) : BI s t0 cs (n + 1) (cs.foldl (stepB s x rx) S) := by
  obtain ⟨h1, ⟨⟨o, e⟩, _⟩, h3⟩ := fold_BI hs hct cs S (fun c h => h) hB hx hr
  refine ⟨h1.nd, h1.at_, h1.l1, h1.l2, h1.hd, h1.rows, h1.par, fun i t hi ht c hc => ?_⟩
  by_cases hin : i < n
  · exact h1.cl i t hin ht c hc
  · have : i = n := by omega
    subst this
    rw [e] at ht
    rw [get_app hx] at ht
    cases ht
    exact h3 c hc
def bs0 (t0 : List Int) : BS := ⟨[t0], [none], [[]]⟩
theorem BI0 {s : Int} {t0 : List Int} {cs : List (List Int)} (h : isA s t0) : BI s t0 cs 0 (bs0 t0) := by
  refine ⟨List.nodup_cons.mpr ⟨List.not_mem_nil, List.nodup_nil⟩, fun t ht => by rw [List.mem_singleton.mp ht]; exact h, rfl, rfl, rfl, fun i r hi => ?_, fun i hi => ?_, fun i t hi _ => by omega⟩
  · cases i with
    | zero =>
      have : [] = r := by simpa [bs0] using hi
      subst this
      exact ⟨t0, rfl, rfl, fun _ h => by cases h⟩
    | succ i => simp [bs0] at hi
  · have : i = 0 := by simp [bs0] at hi; exact hi
    subst this
    exact .inl ⟨rfl, rfl, rfl⟩
theorem BI.len {s : Int} (h6 : six s) {t0 : List Int} {cs : List (List Int)} {n : Nat} {S : BS} (h : BI s t0 cs n S) : S.O.length ≤ 324 := by
  have hs : 0 < s := by rcases h6 with rfl | rfl | rfl | rfl | rfl | rfl <;> decide
  have h1 := len_le (m := every s) h.nd fun t ht => by
    obtain ⟨a, c, q, rfl, ha⟩ := h.at_ t ht
    exact (mem_every hs).mpr ⟨a, c, q, rfl, ha⟩
  have h2 : (every s).length = 4 * s.toNat * s.toNat := tri_len _ _
  have h3 : s.toNat ≤ 9 := by rcases h6 with rfl | rfl | rfl | rfl | rfl | rfl <;> decide
  have h4 : s.toNat * s.toNat ≤ 9 * 9 := Nat.mul_le_mul h3 h3
  rw [Nat.mul_assoc] at h2
  omega
/-- the end: all is closed -/
theorem bfs_BI {s : Int} (h6 : six s) (hs : 0 < s) {t0 : List Int} {cs : List (List Int)} (hct : ∀ c ∈ cs, tri3 c) : ∀ (f n : Nat) (S : BS), BI s t0 cs n S → 325 ≤ f + n → ∃ m, BI s t0 cs m (bfs s cs f n S) ∧ (bfs s cs f n S).O.length ≤ m
  | 0, n, S, hB, hf => ⟨n, hB, by have := hB.len h6; show S.O.length ≤ n; omega⟩
  | f + 1, n, S, hB, hf => by
    unfold bfs
    cases hx : S.O[n]? with
    | none => exact ⟨n, hB, List.getElem?_eq_none_iff.mp hx⟩
    | some x =>
      obtain ⟨rx, hr⟩ : ∃ rx, S.RV[n]? = some rx := ⟨_, List.getElem?_eq_getElem (by rw [hB.l2]; exact (List.getElem?_eq_some_iff.mp hx).1)⟩
      rw [hr]
      exact bfs_BI h6 hs hct f (n + 1) _ (next_BI hs hct hB hx hr) (by omega)
/-- what stands at the end: just what rows lead to -/
theorem mem_reach {s : Int} (hs : 0 < s) {t0 : List Int} {cs : List (List Int)} {m : Nat} {S : BS} (hct : ∀ c ∈ cs, tri3 c) (hB : BI s t0 cs m S) (hm : S.O.length ≤ m) {t : List Int} : t ∈ S.O ↔ ∃ r : List (List Int), (∀ c ∈ r, c ∈ cs) ∧ run s t0 r = t := by
  constructor
  · intro ht
    obtain ⟨i, hi, rfl⟩ := List.mem_iff_getElem.mp ht
    have hi2 : i < S.RV.length := by rw [hB.l2]; exact hi
    obtain ⟨t, h1, h2, h3⟩ := hB.rows i S.RV[i] (List.getElem?_eq_getElem hi2)
    rw [List.getElem?_eq_getElem hi] at h1
    cases h1
    exact ⟨_, h3, h2⟩
  · rintro ⟨r, hr, rfl⟩
    have key : ∀ (r : List (List Int)) (t : List Int), (∀ c ∈ r, c ∈ cs) → t ∈ S.O → run s t r ∈ S.O := by
      intro r
      induction r with
      | nil => intro t _ h; exact h
      | cons c r ih =>
        intro t hr ht
        show run s (act s t c) r ∈ S.O
        refine ih _ (fun d hd => hr d (List.mem_cons_of_mem _ hd)) ?_
        obtain ⟨i, hi, rfl⟩ := List.mem_iff_getElem.mp ht
        exact hB.cl i _ (by omega) (List.getElem?_eq_getElem hi) c (hr c List.mem_cons_self)
    exact key r t0 hr (List.mem_of_getElem? hB.hd)
theorem reach_le {s : Int} (hs : 0 < s) {t0 g : List Int} {cs : List (List Int)} {m n : Nat} {S T : BS} (hct : ∀ c ∈ cs, tri3 c) (h0 : isA s t0) (hg : isA s g) (hB : BI s t0 cs m S) (hm : S.O.length ≤ m) (hC : BI s g cs n T) (hn : T.O.length ≤ n) : S.O.length ≤ T.O.length := by
  obtain ⟨mo, hmo, e⟩ := take_to hs h0 hg
  have h1 : (S.O.map (act s mo)).Nodup := nodup_map (fun x hx y hy h => act_inj hs hmo (hB.at_ x hx) (hB.at_ y hy) h) hB.nd
  have h2 := len_le (m := T.O) h1 fun t ht => by
    obtain ⟨x, hx, rfl⟩ := List.mem_map.mp ht
    obtain ⟨r, hr, rfl⟩ := (mem_reach hs hct hB hm).mp hx
    refine (mem_reach hs hct hC hn).mpr ⟨r, hr, ?_⟩
    rw [← e]
    exact run_act hs (isA_tri hmo) (isA_tri h0) fun c hc => hct c (hr c hc)
  rw [List.length_map] at h2
  exact h2
end K47
set_option Elab.async false
set_option linter.all false
set_option maxRecDepth 100000
set_option maxHeartbeats 4000000
/-! commands done, courses, ways; by the program and by the law. -/
namespace K47
open PySem L2 M
section
variable {s r b g l a c q u v k : Int} {w : List (List Int)} {W C : M.D}
theorem k_abs {U V Mx : Int} {SK : M.D} (hob : ∃ ns vs, SK = .obj "Sky" ns vs) (hsd : F_Sky_side [SK] = .ok (.int s)) (hU : (if u < 0 then -u else u) = U) (hV : (if v < 0 then -v else v) = V) (hM : (if V > U then V else U) = Mx) :
    F_check_command [SK, aD u v k] = if (0 ≤ k ∧ k ≤ 3) ∧ Mx < s then .ok .non else .err "InvalidCommand" (some ("command", aD u v k)) := by
  obtain ⟨ns, vs, rfl⟩ := hob
  have eU : b1D .abs (.int u) = .ok (.int U) := by rw [ev_abs, hU]
  have eV : b1D .abs (.int v) = .ok (.int V) := by rw [ev_abs, hV]
  have eM : b2D .max (.int U) (.int V) = .ok (.int Mx) := by rw [ev_max2, hM]
  unfold F_check_command aD
  by_cases h1 : 0 ≤ k
  · by_cases h2 : k ≤ 3
    · by_cases h : Mx < s
      · rw [if_pos ⟨⟨h1, h2⟩, h⟩]
        have h' : ¬ s ≤ Mx := by omega
        simp [evSs, evS, evE, evEs, evT, evAndT, evOrT, evAnd, evOr, evC, evO, evI, bindF, thenF, nxR, getv, getb, setv, bindP, setAll, ownD, putO, augF, frE, B1.fresh, runD, runM, outM, stF, st0, _root_.M.isNon, LIM, ev_bo, ev_be, ev_bb, ev_rs, ev_rn, ev_add, ev_sub, ev_mulr, ev_mull, ev_mod, ev_fdiv, ev_addl, ev_lt, ev_le, ev_gt, ev_ge, ev_eqi, ev_nei, ev_tb, ev_ti, ev_tn, ev_tl, ev_lenl, ev_lens, ev_lent, ev_abs, ev_int, ev_max2, ev_min2, ev_ai, ev_ixl, ev_ixs, ev_ixt, ev_sql, ev_sqs, ev_sqt, ev_rng, ev_rng2, ev_sl, ev_ss, ir_check_command, at0, at1, at2, h1, h2, eU, eV, eM, hsd, noErr, h', -ev_abs, -ev_max2]
      · rw [if_neg (fun z => h z.2)]
        have h' : s ≤ Mx := by omega
        simp [evSs, evS, evE, evEs, evT, evAndT, evOrT, evAnd, evOr, evC, evO, evI, bindF, thenF, nxR, getv, getb, setv, bindP, setAll, ownD, putO, augF, frE, B1.fresh, runD, runM, outM, stF, st0, _root_.M.isNon, LIM, ev_bo, ev_be, ev_bb, ev_rs, ev_rn, ev_add, ev_sub, ev_mulr, ev_mull, ev_mod, ev_fdiv, ev_addl, ev_lt, ev_le, ev_gt, ev_ge, ev_eqi, ev_nei, ev_tb, ev_ti, ev_tn, ev_tl, ev_lenl, ev_lens, ev_lent, ev_abs, ev_int, ev_max2, ev_min2, ev_ai, ev_ixl, ev_ixs, ev_ixt, ev_sql, ev_sqs, ev_sqt, ev_rng, ev_rng2, ev_sl, ev_ss, ir_check_command, at0, at1, at2, h1, h2, eU, eV, eM, hsd, noErr, h', -ev_abs, -ev_max2]
    · rw [if_neg (fun z => h2 z.1.2)]
      simp [evSs, evS, evE, evEs, evT, evAndT, evOrT, evAnd, evOr, evC, evO, evI, bindF, thenF, nxR, getv, getb, setv, bindP, setAll, ownD, putO, augF, frE, B1.fresh, runD, runM, outM, stF, st0, _root_.M.isNon, LIM, ev_bo, ev_be, ev_bb, ev_rs, ev_rn, ev_add, ev_sub, ev_mulr, ev_mull, ev_mod, ev_fdiv, ev_addl, ev_lt, ev_le, ev_gt, ev_ge, ev_eqi, ev_nei, ev_tb, ev_ti, ev_tn, ev_tl, ev_lenl, ev_lens, ev_lent, ev_abs, ev_int, ev_max2, ev_min2, ev_ai, ev_ixl, ev_ixs, ev_ixt, ev_sql, ev_sqs, ev_sqt, ev_rng, ev_rng2, ev_sl, ev_ss, ir_check_command, at0, at1, at2, h1, h2]
  · rw [if_neg (fun z => h1 z.1.1)]
    simp [evSs, evS, evE, evEs, evT, evAndT, evOrT, evAnd, evOr, evC, evO, evI, bindF, thenF, nxR, getv, getb, setv, bindP, setAll, ownD, putO, augF, frE, B1.fresh, runD, runM, outM, stF, st0, _root_.M.isNon, LIM, ev_bo, ev_be, ev_bb, ev_rs, ev_rn, ev_add, ev_sub, ev_mulr, ev_mull, ev_mod, ev_fdiv, ev_addl, ev_lt, ev_le, ev_gt, ev_ge, ev_eqi, ev_nei, ev_tb, ev_ti, ev_tn, ev_tl, ev_lenl, ev_lens, ev_lent, ev_abs, ev_int, ev_max2, ev_min2, ev_ai, ev_ixl, ev_ixs, ev_ixt, ev_sql, ev_sqs, ev_sqt, ev_rng, ev_rng2, ev_sl, ev_ss, ir_check_command, at0, at1, at2, h1]
theorem cmd_ok (hs : 4 ≤ s) (h : CmdOk u v k) : F_check_command [skyD s w r b g l, aD u v k] = .ok .non := by
  obtain ⟨h1, h2, h3⟩ := h
  rw [k_abs (SK := skyD s w r b g l) (U := if u < 0 then -u else u) (V := if v < 0 then -v else v) ⟨_, _, rfl⟩ (side_ev s r b g l w) rfl rfl rfl, if_pos]
  refine ⟨h3, ?_⟩
  split <;> split <;> split <;> omega
theorem cmd_no (h : ¬ ((0 ≤ k ∧ k ≤ 3) ∧ (-s < u ∧ u < s) ∧ -s < v ∧ v < s)) : F_check_command [skyD s w r b g l, aD u v k] = .err "InvalidCommand" (some ("command", aD u v k)) := by
  rw [k_abs (SK := skyD s w r b g l) (U := if u < 0 then -u else u) (V := if v < 0 then -v else v) ⟨_, _, rfl⟩ (side_ev s r b g l w) rfl rfl rfl, if_neg]
  rintro ⟨h1, h2⟩
  refine h ⟨h1, ?_⟩
  split at h2 <;> split at h2 <;> split at h2 <;> omega
theorem mot_no {x y z : Int} (h : ¬ ((0 ≤ x ∧ x < s) ∧ (0 ≤ y ∧ y < s) ∧ 0 ≤ z ∧ z ≤ 3)) : F_check_attitude [skyD s w r b g l, aD x y z] = .err "InvalidAttitude" (some ("attitude", aD x y z)) := by
  have h1 : F_is_motion [.int s, .tup [.int x, .int y, .int z]] = .ok (.bl false) := by
    unfold F_is_motion
    by_cases h1 : 0 ≤ x
    · by_cases h2 : x < s
      · by_cases h3 : 0 ≤ y
        · by_cases h4 : y < s
          · by_cases h5 : 0 ≤ z
            · have h6 : ¬ z ≤ 3 := fun h6 => h ⟨⟨h1, h2⟩, ⟨h3, h4⟩, h5, h6⟩
              simp [evSs, evS, evE, evEs, evT, evAndT, evOrT, evAnd, evOr, evC, evO, evI, bindF, thenF, nxR, getv, getb, setv, bindP, setAll, ownD, putO, augF, frE, B1.fresh, runD, runM, outM, stF, st0, _root_.M.isNon, LIM, ev_bo, ev_be, ev_bb, ev_rs, ev_rn, ev_add, ev_sub, ev_mulr, ev_mull, ev_mod, ev_fdiv, ev_addl, ev_lt, ev_le, ev_gt, ev_ge, ev_eqi, ev_nei, ev_tb, ev_ti, ev_tn, ev_tl, ev_lenl, ev_lens, ev_lent, ev_abs, ev_int, ev_max2, ev_min2, ev_ai, ev_ixl, ev_ixs, ev_ixt, ev_sql, ev_sqs, ev_sqt, ev_rng, ev_rng2, ev_sl, ev_ss, ir_is_motion, at0, at1, at2, h1, h2, h3, h4, h5, h6]
            · simp [evSs, evS, evE, evEs, evT, evAndT, evOrT, evAnd, evOr, evC, evO, evI, bindF, thenF, nxR, getv, getb, setv, bindP, setAll, ownD, putO, augF, frE, B1.fresh, runD, runM, outM, stF, st0, _root_.M.isNon, LIM, ev_bo, ev_be, ev_bb, ev_rs, ev_rn, ev_add, ev_sub, ev_mulr, ev_mull, ev_mod, ev_fdiv, ev_addl, ev_lt, ev_le, ev_gt, ev_ge, ev_eqi, ev_nei, ev_tb, ev_ti, ev_tn, ev_tl, ev_lenl, ev_lens, ev_lent, ev_abs, ev_int, ev_max2, ev_min2, ev_ai, ev_ixl, ev_ixs, ev_ixt, ev_sql, ev_sqs, ev_sqt, ev_rng, ev_rng2, ev_sl, ev_ss, ir_is_motion, at0, at1, at2, h1, h2, h3, h4, h5]
          · simp [evSs, evS, evE, evEs, evT, evAndT, evOrT, evAnd, evOr, evC, evO, evI, bindF, thenF, nxR, getv, getb, setv, bindP, setAll, ownD, putO, augF, frE, B1.fresh, runD, runM, outM, stF, st0, _root_.M.isNon, LIM, ev_bo, ev_be, ev_bb, ev_rs, ev_rn, ev_add, ev_sub, ev_mulr, ev_mull, ev_mod, ev_fdiv, ev_addl, ev_lt, ev_le, ev_gt, ev_ge, ev_eqi, ev_nei, ev_tb, ev_ti, ev_tn, ev_tl, ev_lenl, ev_lens, ev_lent, ev_abs, ev_int, ev_max2, ev_min2, ev_ai, ev_ixl, ev_ixs, ev_ixt, ev_sql, ev_sqs, ev_sqt, ev_rng, ev_rng2, ev_sl, ev_ss, ir_is_motion, at0, at1, at2, h1, h2, h3, h4]
        · simp [evSs, evS, evE, evEs, evT, evAndT, evOrT, evAnd, evOr, evC, evO, evI, bindF, thenF, nxR, getv, getb, setv, bindP, setAll, ownD, putO, augF, frE, B1.fresh, runD, runM, outM, stF, st0, _root_.M.isNon, LIM, ev_bo, ev_be, ev_bb, ev_rs, ev_rn, ev_add, ev_sub, ev_mulr, ev_mull, ev_mod, ev_fdiv, ev_addl, ev_lt, ev_le, ev_gt, ev_ge, ev_eqi, ev_nei, ev_tb, ev_ti, ev_tn, ev_tl, ev_lenl, ev_lens, ev_lent, ev_abs, ev_int, ev_max2, ev_min2, ev_ai, ev_ixl, ev_ixs, ev_ixt, ev_sql, ev_sqs, ev_sqt, ev_rng, ev_rng2, ev_sl, ev_ss, ir_is_motion, at0, at1, at2, h1, h2, h3]
      · simp [evSs, evS, evE, evEs, evT, evAndT, evOrT, evAnd, evOr, evC, evO, evI, bindF, thenF, nxR, getv, getb, setv, bindP, setAll, ownD, putO, augF, frE, B1.fresh, runD, runM, outM, stF, st0, _root_.M.isNon, LIM, ev_bo, ev_be, ev_bb, ev_rs, ev_rn, ev_add, ev_sub, ev_mulr, ev_mull, ev_mod, ev_fdiv, ev_addl, ev_lt, ev_le, ev_gt, ev_ge, ev_eqi, ev_nei, ev_tb, ev_ti, ev_tn, ev_tl, ev_lenl, ev_lens, ev_lent, ev_abs, ev_int, ev_max2, ev_min2, ev_ai, ev_ixl, ev_ixs, ev_ixt, ev_sql, ev_sqs, ev_sqt, ev_rng, ev_rng2, ev_sl, ev_ss, ir_is_motion, at0, at1, at2, h1, h2]
    · simp [evSs, evS, evE, evEs, evT, evAndT, evOrT, evAnd, evOr, evC, evO, evI, bindF, thenF, nxR, getv, getb, setv, bindP, setAll, ownD, putO, augF, frE, B1.fresh, runD, runM, outM, stF, st0, _root_.M.isNon, LIM, ev_bo, ev_be, ev_bb, ev_rs, ev_rn, ev_add, ev_sub, ev_mulr, ev_mull, ev_mod, ev_fdiv, ev_addl, ev_lt, ev_le, ev_gt, ev_ge, ev_eqi, ev_nei, ev_tb, ev_ti, ev_tn, ev_tl, ev_lenl, ev_lens, ev_lent, ev_abs, ev_int, ev_max2, ev_min2, ev_ai, ev_ixl, ev_ixs, ev_ixt, ev_sql, ev_sqs, ev_sqt, ev_rng, ev_rng2, ev_sl, ev_ss, ir_is_motion, at0, at1, at2, h1]
  have hsd := side_ev s r b g l w
  unfold skyD at hsd ⊢
  unfold F_check_attitude aD
  generalize M.D.tup (w.map tD) = W at *
  simp [evSs, evS, evE, evEs, evT, evAndT, evOrT, evAnd, evOr, evC, evO, evI, bindF, thenF, nxR, getv, getb, setv, bindP, setAll, ownD, putO, augF, frE, B1.fresh, runD, runM, outM, stF, st0, _root_.M.isNon, LIM, ev_bo, ev_be, ev_bb, ev_rs, ev_rn, ev_add, ev_sub, ev_mulr, ev_mull, ev_mod, ev_fdiv, ev_addl, ev_lt, ev_le, ev_gt, ev_ge, ev_eqi, ev_nei, ev_tb, ev_ti, ev_tn, ev_tl, ev_lenl, ev_lens, ev_lent, ev_abs, ev_int, ev_max2, ev_min2, ev_ai, ev_ixl, ev_ixs, ev_ixt, ev_sql, ev_sqs, ev_sqt, ev_rng, ev_rng2, ev_sl, ev_ss, ir_check_attitude, h1, hsd, noErr]
theorem attA_ok {t : List Int} (h : isA s t) : F_check_attitude [skyD s w r b g l, tD t] = .ok .non := by
  obtain ⟨a, c, q, rfl, h1, h2, h3⟩ := h
  exact att_ok h1 h2 h3
theorem cmdC_ok (hs : 4 ≤ s) {t : List Int} (h : isC3 t) : F_check_command [skyD s w r b g l, tD t] = .ok .non := by
  obtain ⟨u, v, k, rfl, h⟩ := h
  exact cmd_ok hs h
theorem com_ok (hs : 4 ≤ s) {t cm : List Int} (h : isA s t) (hc : isC3 cm) : F_commanded [skyD s w r b g l, tD t, tD cm] = .ok (tD (act s t cm)) := by
  have h1 := attA_ok (r := r) (b := b) (g := g) (l := l) (w := w) h
  have h2 := cmdC_ok (r := r) (b := b) (g := g) (l := l) (w := w) hs hc
  obtain ⟨a, c, q, rfl, _⟩ := h
  obtain ⟨u, v, k, rfl, _⟩ := hc
  have h3 := pturned_ok q u v
  have hsd := side_ev s r b g l w
  have hs0 : 0 < s := by omega
  show _ = R.ok (M.D.tup [.int ((a + rX q u v) % s), .int ((c + rY q u v) % s), .int ((q + k) % 4)])
  have e1 : tD [a, c, q] = .tup [.int a, .int c, .int q] := rfl
  have e2 : tD [u, v, k] = .tup [.int u, .int v, .int k] := rfl
  rw [e1] at h1
  rw [e2] at h2
  rw [e1, e2]
  unfold F_commanded
  generalize rX q u v = X at *
  generalize rY q u v = Y at *
  unfold skyD at *
  generalize M.D.tup (w.map tD) = W at *
  simp [evSs, evS, evE, evEs, evT, evAndT, evOrT, evAnd, evOr, evC, evO, evI, bindF, thenF, nxR, getv, getb, setv, bindP, setAll, ownD, putO, augF, frE, B1.fresh, runD, runM, outM, stF, st0, _root_.M.isNon, LIM, ev_bo, ev_be, ev_bb, ev_rs, ev_rn, ev_add, ev_sub, ev_mulr, ev_mull, ev_mod, ev_fdiv, ev_addl, ev_lt, ev_le, ev_gt, ev_ge, ev_eqi, ev_nei, ev_tb, ev_ti, ev_tn, ev_tl, ev_lenl, ev_lens, ev_lent, ev_abs, ev_int, ev_max2, ev_min2, ev_ai, ev_ixl, ev_ixs, ev_ixt, ev_sql, ev_sqs, ev_sqt, ev_rng, ev_rng2, ev_sl, ev_ss, ir_commanded, h1, h2, h3, hsd, at0, at1, at2, sl2, hs0, noErr]
theorem lcomT_ok (hs : 0 < s) {t cm : List Int} (h : tri3 t) (hc : tri3 cm) : F__law_commanded [pD s W C, tD t, tD cm] = .ok (tD (act s t cm)) := by
  obtain ⟨a, c, q, rfl⟩ := h
  obtain ⟨u, v, k, rfl⟩ := hc
  exact lcom_ok hs
/-! ### courses -/
def scan (s : Int) : List Int → List (List Int) → List (List Int)
  | x, [] => [x]
  | x, c :: r => x :: scan s (act s x c) r
theorem scan_last {s : Int} : ∀ (r : List (List Int)) (x : List Int), ∃ B, scan s x r = B ++ [run s x r]
  | [], x => ⟨[], rfl⟩
  | c :: r, x => by
    obtain ⟨B, e⟩ := scan_last (s := s) r (act s x c)
    exact ⟨x :: B, by unfold scan; rw [e]; rfl⟩
theorem scan_len {s : Int} : ∀ (r : List (List Int)) (x : List Int), (scan s x r).length = r.length + 1
  | [], x => rfl
  | c :: r, x => by unfold scan; rw [List.length_cons, scan_len r, List.length_cons]
theorem at_last (l : List M.D) (x : M.D) : atI (l ++ [x]) (-1) = some x := by
  unfold atI L2.ixN
  rw [if_neg (by decide), if_pos (by rw [List.length_append]; simp only [List.length_cons, List.length_nil]; omega)]
  show (l ++ [x])[(-1 + ((l ++ [x]).length : Int)).toNat]? = some x
  rw [show (-1 + ((l ++ [x]).length : Int)).toNat = l.length by rw [List.length_append]; simp only [List.length_cons, List.length_nil]; omega]
  simp
theorem cu_step {st : ES} {SK T CM T' : M.D} {AD : List M.D} (hp : Pl st) (hl : st.length = 5) (h0 : st[0]? = some (.val SK)) (h3 : st[3]? = some (.own (.lst (AD ++ [T])))) (hA : AD.length < 10000) (e : F_commanded [SK, T, CM] = .ok T') :
    ∃ st2, evSs 100000 b0_course (st.set 4 (.val CM)) = .nx st2 ∧ st2[3]? = some (.own (.lst (AD ++ [T] ++ [T']))) := by
  have e1 := at_last AD T
  have e2 : (AD ++ [T]).length < 16777216 := by rw [List.length_append]; simp only [List.length_cons, List.length_nil]; omega
  generalize AD ++ [T] = A2 at *
  simp (maxDischargeDepth := 12) [evSs, evS, evE, evEs, evT, evAndT, evOrT, evAnd, evOr, evC, evO, evI, bindF, thenF, nxR, getv, getb, bindP, setAll, ownD, putO, augF, frE, B1.fresh, runD, runM, outM, stF, st0, _root_.M.isNon, LIM, ev_bo, ev_be, ev_bb, ev_rs, ev_rn, ev_add, ev_sub, ev_mulr, ev_mull, ev_mod, ev_fdiv, ev_addl, ev_lt, ev_le, ev_gt, ev_ge, ev_eqi, ev_nei, ev_tb, ev_ti, ev_tn, ev_tl, ev_lenl, ev_lens, ev_lent, ev_abs, ev_int, ev_max2, ev_min2, ev_ai, ev_ixl, ev_ixs, ev_ixt, ev_sql, ev_sqs, ev_sqt, ev_rng, ev_rng2, ev_sl, ev_ss, setv_pl, pl_val, pl_own, pl_un, pl_nil, pl_cv, pl_co, pl_cu, List.getElem?_set, List.length_set, cget0, cget1, -getElem?_pos, b0_course, hp, hl, h0, h3, e, e1, e2]
theorem cu_loop (hs : 4 ≤ s) : ∀ (R : List (List Int)) (A : List (List Int)) (x : List Int) (st : ES), (∀ t ∈ R, isC3 t) → isA s x → A.length + R.length ≤ 1000 → Pl st → st.length = 5 → st[0]? = some (.val (skyD s w r b g l)) → st[3]? = some (.own (.lst (A.map tD ++ [tD x]))) →
    ∃ st', forRun (bindP (.n 4)) (fun s => evSs 100000 b0_course s) (R.map tD) st = .nx st' ∧ st'[3]? = some (.own (.lst ((A ++ scan s x R).map tD)))
  | [], A, x, st, _, _, _, _, _, _, h3 => ⟨st, rfl, by rw [h3]; unfold scan; rw [List.map_append]; rfl⟩
  | cm :: R, A, x, st, hR, hx, hl2, hp, hl, h0, h3 => by
    rw [List.length_cons] at hl2
    have hc := hR cm List.mem_cons_self
    obtain ⟨z, e, g3⟩ := cu_step hp hl h0 h3 (by rw [List.length_map]; omega) (com_ok hs hx hc)
    have hF : Fm [3, 4] st z := (Fm.set (by decide) rfl).trans (Fm.of_nx e (by decide))
    have hx' := act_A (show 0 < s by omega) (isA_tri hx) (isC_tri hc)
    obtain ⟨st', e2, g⟩ := cu_loop hs R (A ++ [x]) (act s x cm) z (fun t ht => hR t (List.mem_cons_of_mem _ ht)) hx' (by rw [List.length_append]; simp only [List.length_cons, List.length_nil]; omega) (hF.pl hp) (hF.len.trans hl) ((hF.same 0 (by decide)).trans h0) (by rw [g3]; simp only [List.map_append, List.map_cons, List.map_nil])
    refine ⟨st', ?_, ?_⟩
    · rw [List.map_cons, for_hd (setv_pl hp (by omega)), e]
      exact e2
    · rw [g, show scan s x (cm :: R) = x :: scan s (act s x cm) R from rfl, List.append_assoc]
      rfl
theorem ccr_chk {st : ES} {A : List (List Int)} (hs : 4 ≤ s) (hA : ∀ t ∈ A, isC3 t) (hp : Pl st) (hl : st.length = 3) (h0 : st[0]? = some (.val (skyD s w r b g l))) :
    ∃ st', (∀ m, forRun (bindP (.n 2)) (fun s => evSs 100000 b0_check_commands_rows s) (A.map tD ++ m) st = forRun (bindP (.n 2)) (fun s => evSs 100000 b0_check_commands_rows s) m st') ∧ Fm [2] st st' := by
  obtain ⟨st', e, h⟩ := for_relm (bind := bindP (.n 2)) (body := fun s => evSs 100000 b0_check_commands_rows s) tD (fun _ (_ : Unit) z => Fm [2] st z) (fun _ _ => ()) A 0 () st (Fm.refl _ _) (fun j t ht _ z hF => by
    have hpz := hF.pl hp
    have hlz := hF.len.trans hl
    have hz0 := (hF.same 0 (by decide)).trans h0
    have hc := cmdC_ok (r := r) (b := b) (g := g) (l := l) (w := w) hs (hA t (List.mem_of_getElem? ht))
    have e2 : evSs 100000 b0_check_commands_rows (z.set 2 (.val (tD t))) = .nx (z.set 2 (.val (tD t))) := by
      generalize skyD s w r b g l = SK at *
      generalize tD t = T at *
      simp (maxDischargeDepth := 12) [evSs, evS, evE, evEs, evT, evAndT, evOrT, evAnd, evOr, evC, evO, evI, bindF, thenF, nxR, getv, getb, bindP, setAll, ownD, putO, augF, frE, B1.fresh, runD, runM, outM, stF, st0, _root_.M.isNon, LIM, ev_bo, ev_be, ev_bb, ev_rs, ev_rn, ev_add, ev_sub, ev_mulr, ev_mull, ev_mod, ev_fdiv, ev_addl, ev_lt, ev_le, ev_gt, ev_ge, ev_eqi, ev_nei, ev_tb, ev_ti, ev_tn, ev_tl, ev_lenl, ev_lens, ev_lent, ev_abs, ev_int, ev_max2, ev_min2, ev_ai, ev_ixl, ev_ixs, ev_ixt, ev_sql, ev_sqs, ev_sqt, ev_rng, ev_rng2, ev_sl, ev_ss, setv_pl, pl_val, pl_own, pl_un, pl_nil, pl_cv, pl_co, pl_cu, List.getElem?_set, List.length_set, cget0, cget1, -getElem?_pos, b0_check_commands_rows, hpz, hlz, hz0, hc]
    exact ⟨_, _, setv_pl hpz (by omega), e2, hF.trans (Fm.set (by decide) rfl)⟩)
  exact ⟨st', e, h⟩
theorem ccr_ok {A : List (List Int)} (hs : 4 ≤ s) (hA : ∀ t ∈ A, isC3 t) : F_check_commands_rows [skyD s w r b g l, .lst (A.map tD)] = .ok .non := by
  obtain ⟨z, e, _⟩ := ccr_chk (s := s) (r := r) (b := b) (g := g) (l := l) (w := w) (st := [.val (skyD s w r b g l), .val (.lst (A.map tD)), .un]) hs hA rfl rfl rfl
  have e := e []
  rw [List.append_nil] at e
  have e : _ = Fl.nx z := e
  unfold F_check_commands_rows
  generalize A.map tD = AD at *
  generalize skyD s w r b g l = SK at *
  simp [evSs, evS, evE, evEs, evT, evAndT, evOrT, evAnd, evOr, evC, evO, evI, bindF, thenF, nxR, getv, getb, setv, bindP, setAll, ownD, putO, augF, frE, B1.fresh, runD, runM, outM, stF, st0, _root_.M.isNon, LIM, ev_bo, ev_be, ev_bb, ev_rs, ev_rn, ev_add, ev_sub, ev_mulr, ev_mull, ev_mod, ev_fdiv, ev_addl, ev_lt, ev_le, ev_gt, ev_ge, ev_eqi, ev_nei, ev_tb, ev_ti, ev_tn, ev_tl, ev_lenl, ev_lens, ev_lent, ev_abs, ev_int, ev_max2, ev_min2, ev_ai, ev_ixl, ev_ixs, ev_ixt, ev_sql, ev_sqs, ev_sqt, ev_rng, ev_rng2, ev_sl, ev_ss, ir_check_commands_rows, e]
theorem ccr_no {A : List (List Int)} {m : List M.D} {X : M.D} (hs : 4 ≤ s) (hA : ∀ t ∈ A, isC3 t) (hc : F_check_command [skyD s w r b g l, X] = .err "InvalidCommand" (some ("command", X))) : F_check_commands_rows [skyD s w r b g l, .lst (A.map tD ++ X :: m)] = .err "InvalidCommand" (some ("command", X)) := by
  obtain ⟨z1, e1, hF⟩ := ccr_chk (s := s) (r := r) (b := b) (g := g) (l := l) (w := w) (st := [.val (skyD s w r b g l), .val (.lst (A.map tD ++ X :: m)), .un]) hs hA rfl rfl rfl
  have e1 := e1 (X :: m)
  have hl7 : z1.length = 3 := hF.len
  have hp := hF.pl (by rfl)
  have k0 : z1[0]? = some (.val (skyD s w r b g l)) := hF.same 0 (by decide)
  have e2 : evSs 100000 b0_check_commands_rows (z1.set 2 (.val X)) = .er "InvalidCommand" (some ("command", X)) (z1.set 2 (.val X)) := by
    generalize skyD s w r b g l = SK at *
    simp (maxDischargeDepth := 12) [evSs, evS, evE, evEs, evT, evAndT, evOrT, evAnd, evOr, evC, evO, evI, bindF, thenF, nxR, getv, getb, bindP, setAll, ownD, putO, augF, frE, B1.fresh, runD, runM, outM, stF, st0, _root_.M.isNon, LIM, ev_bo, ev_be, ev_bb, ev_rs, ev_rn, ev_add, ev_sub, ev_mulr, ev_mull, ev_mod, ev_fdiv, ev_addl, ev_lt, ev_le, ev_gt, ev_ge, ev_eqi, ev_nei, ev_tb, ev_ti, ev_tn, ev_tl, ev_lenl, ev_lens, ev_lent, ev_abs, ev_int, ev_max2, ev_min2, ev_ai, ev_ixl, ev_ixs, ev_ixt, ev_sql, ev_sqs, ev_sqt, ev_rng, ev_rng2, ev_sl, ev_ss, setv_pl, pl_val, pl_own, pl_un, pl_nil, pl_cv, pl_co, pl_cu, List.getElem?_set, List.length_set, cget0, cget1, -getElem?_pos, b0_check_commands_rows, hl7, hp, k0, hc]
  rw [for_hd (setv_pl hp (by omega)), e2] at e1
  clear hF
  unfold F_check_commands_rows
  generalize A.map tD ++ X :: m = AD at *
  generalize skyD s w r b g l = SK at *
  simp [evSs, evS, evE, evEs, evT, evAndT, evOrT, evAnd, evOr, evC, evO, evI, bindF, thenF, nxR, getv, getb, setv, bindP, setAll, ownD, putO, augF, frE, B1.fresh, runD, runM, outM, stF, st0, _root_.M.isNon, LIM, ev_bo, ev_be, ev_bb, ev_rs, ev_rn, ev_add, ev_sub, ev_mulr, ev_mull, ev_mod, ev_fdiv, ev_addl, ev_lt, ev_le, ev_gt, ev_ge, ev_eqi, ev_nei, ev_tb, ev_ti, ev_tn, ev_tl, ev_lenl, ev_lens, ev_lent, ev_abs, ev_int, ev_max2, ev_min2, ev_ai, ev_ixl, ev_ixs, ev_ixt, ev_sql, ev_sqs, ev_sqt, ev_rng, ev_rng2, ev_sl, ev_ss, ir_check_commands_rows, e1]
theorem cct_chk {st : ES} {A : List (List Int)} (hs : 4 ≤ s) (hA : ∀ t ∈ A, isC3 t) (hp : Pl st) (hl : st.length = 3) (h0 : st[0]? = some (.val (skyD s w r b g l))) :
    ∃ st', (∀ m, forRun (bindP (.n 2)) (fun s => evSs 100000 b0_check_commands_turns s) (A.map tD ++ m) st = forRun (bindP (.n 2)) (fun s => evSs 100000 b0_check_commands_turns s) m st') ∧ Fm [2] st st' := by
  obtain ⟨st', e, h⟩ := for_relm (bind := bindP (.n 2)) (body := fun s => evSs 100000 b0_check_commands_turns s) tD (fun _ (_ : Unit) z => Fm [2] st z) (fun _ _ => ()) A 0 () st (Fm.refl _ _) (fun j t ht _ z hF => by
    have hpz := hF.pl hp
    have hlz := hF.len.trans hl
    have hz0 := (hF.same 0 (by decide)).trans h0
    have hc := cmdC_ok (r := r) (b := b) (g := g) (l := l) (w := w) hs (hA t (List.mem_of_getElem? ht))
    have e2 : evSs 100000 b0_check_commands_turns (z.set 2 (.val (tD t))) = .nx (z.set 2 (.val (tD t))) := by
      generalize skyD s w r b g l = SK at *
      generalize tD t = T at *
      simp (maxDischargeDepth := 12) [evSs, evS, evE, evEs, evT, evAndT, evOrT, evAnd, evOr, evC, evO, evI, bindF, thenF, nxR, getv, getb, bindP, setAll, ownD, putO, augF, frE, B1.fresh, runD, runM, outM, stF, st0, _root_.M.isNon, LIM, ev_bo, ev_be, ev_bb, ev_rs, ev_rn, ev_add, ev_sub, ev_mulr, ev_mull, ev_mod, ev_fdiv, ev_addl, ev_lt, ev_le, ev_gt, ev_ge, ev_eqi, ev_nei, ev_tb, ev_ti, ev_tn, ev_tl, ev_lenl, ev_lens, ev_lent, ev_abs, ev_int, ev_max2, ev_min2, ev_ai, ev_ixl, ev_ixs, ev_ixt, ev_sql, ev_sqs, ev_sqt, ev_rng, ev_rng2, ev_sl, ev_ss, setv_pl, pl_val, pl_own, pl_un, pl_nil, pl_cv, pl_co, pl_cu, List.getElem?_set, List.length_set, cget0, cget1, -getElem?_pos, b0_check_commands_turns, hpz, hlz, hz0, hc]
    exact ⟨_, _, setv_pl hpz (by omega), e2, hF.trans (Fm.set (by decide) rfl)⟩)
  exact ⟨st', e, h⟩
theorem cct_ok {A : List (List Int)} (hs : 4 ≤ s) (hA : ∀ t ∈ A, isC3 t) : F_check_commands_turns [skyD s w r b g l, .lst (A.map tD)] = .ok .non := by
  obtain ⟨z, e, _⟩ := cct_chk (s := s) (r := r) (b := b) (g := g) (l := l) (w := w) (st := [.val (skyD s w r b g l), .val (.lst (A.map tD)), .un]) hs hA rfl rfl rfl
  have e := e []
  rw [List.append_nil] at e
  have e : _ = Fl.nx z := e
  unfold F_check_commands_turns
  generalize A.map tD = AD at *
  generalize skyD s w r b g l = SK at *
  simp [evSs, evS, evE, evEs, evT, evAndT, evOrT, evAnd, evOr, evC, evO, evI, bindF, thenF, nxR, getv, getb, setv, bindP, setAll, ownD, putO, augF, frE, B1.fresh, runD, runM, outM, stF, st0, _root_.M.isNon, LIM, ev_bo, ev_be, ev_bb, ev_rs, ev_rn, ev_add, ev_sub, ev_mulr, ev_mull, ev_mod, ev_fdiv, ev_addl, ev_lt, ev_le, ev_gt, ev_ge, ev_eqi, ev_nei, ev_tb, ev_ti, ev_tn, ev_tl, ev_lenl, ev_lens, ev_lent, ev_abs, ev_int, ev_max2, ev_min2, ev_ai, ev_ixl, ev_ixs, ev_ixt, ev_sql, ev_sqs, ev_sqt, ev_rng, ev_rng2, ev_sl, ev_ss, ir_check_commands_turns, e]
theorem cct_no {A : List (List Int)} {m : List M.D} {X : M.D} (hs : 4 ≤ s) (hA : ∀ t ∈ A, isC3 t) (hc : F_check_command [skyD s w r b g l, X] = .err "InvalidCommand" (some ("command", X))) : F_check_commands_turns [skyD s w r b g l, .lst (A.map tD ++ X :: m)] = .err "InvalidCommand" (some ("command", X)) := by
  obtain ⟨z1, e1, hF⟩ := cct_chk (s := s) (r := r) (b := b) (g := g) (l := l) (w := w) (st := [.val (skyD s w r b g l), .val (.lst (A.map tD ++ X :: m)), .un]) hs hA rfl rfl rfl
  have e1 := e1 (X :: m)
  have hl7 : z1.length = 3 := hF.len
  have hp := hF.pl (by rfl)
  have k0 : z1[0]? = some (.val (skyD s w r b g l)) := hF.same 0 (by decide)
  have e2 : evSs 100000 b0_check_commands_turns (z1.set 2 (.val X)) = .er "InvalidCommand" (some ("command", X)) (z1.set 2 (.val X)) := by
    generalize skyD s w r b g l = SK at *
    simp (maxDischargeDepth := 12) [evSs, evS, evE, evEs, evT, evAndT, evOrT, evAnd, evOr, evC, evO, evI, bindF, thenF, nxR, getv, getb, bindP, setAll, ownD, putO, augF, frE, B1.fresh, runD, runM, outM, stF, st0, _root_.M.isNon, LIM, ev_bo, ev_be, ev_bb, ev_rs, ev_rn, ev_add, ev_sub, ev_mulr, ev_mull, ev_mod, ev_fdiv, ev_addl, ev_lt, ev_le, ev_gt, ev_ge, ev_eqi, ev_nei, ev_tb, ev_ti, ev_tn, ev_tl, ev_lenl, ev_lens, ev_lent, ev_abs, ev_int, ev_max2, ev_min2, ev_ai, ev_ixl, ev_ixs, ev_ixt, ev_sql, ev_sqs, ev_sqt, ev_rng, ev_rng2, ev_sl, ev_ss, setv_pl, pl_val, pl_own, pl_un, pl_nil, pl_cv, pl_co, pl_cu, List.getElem?_set, List.length_set, cget0, cget1, -getElem?_pos, b0_check_commands_turns, hl7, hp, k0, hc]
  rw [for_hd (setv_pl hp (by omega)), e2] at e1
  clear hF
  unfold F_check_commands_turns
  generalize A.map tD ++ X :: m = AD at *
  generalize skyD s w r b g l = SK at *
  simp [evSs, evS, evE, evEs, evT, evAndT, evOrT, evAnd, evOr, evC, evO, evI, bindF, thenF, nxR, getv, getb, setv, bindP, setAll, ownD, putO, augF, frE, B1.fresh, runD, runM, outM, stF, st0, _root_.M.isNon, LIM, ev_bo, ev_be, ev_bb, ev_rs, ev_rn, ev_add, ev_sub, ev_mulr, ev_mull, ev_mod, ev_fdiv, ev_addl, ev_lt, ev_le, ev_gt, ev_ge, ev_eqi, ev_nei, ev_tb, ev_ti, ev_tn, ev_tl, ev_lenl, ev_lens, ev_lent, ev_abs, ev_int, ev_max2, ev_min2, ev_ai, ev_ixl, ev_ixs, ev_ixt, ev_sql, ev_sqs, ev_sqt, ev_rng, ev_rng2, ev_sl, ev_ss, ir_check_commands_turns, e1]
theorem course_ok (hs : 4 ≤ s) {x : List Int} {R : List (List Int)} (hx : isA s x) (hR : ∀ t ∈ R, isC3 t) (hl : R.length ≤ 900) : F_course [skyD s w r b g l, tD x, .lst (R.map tD)] = .ok (.lst ((scan s x R).map tD)) := by
  have h1 := attA_ok (r := r) (b := b) (g := g) (l := l) (w := w) hx
  have h2 := ccr_ok (r := r) (b := b) (g := g) (l := l) (w := w) hs hR
  obtain ⟨st', e, g3⟩ := cu_loop (s := s) (r := r) (b := b) (g := g) (l := l) (w := w) hs R [] x [.val (skyD s w r b g l), .val (tD x), .val (.lst (R.map tD)), .own (.lst [tD x]), .un] hR hx (by simp only [List.length_nil]; omega) rfl rfl rfl rfl
  rw [List.nil_append] at g3
  have hl := (FmF.for_ (U := [3, 4]) (bind := bindP (.n 4)) (body := fun s => evSs 100000 b0_course s) (fun x st st1 h => Fm.bindP (by decide) h) (fun st => (evSs_frame 100000 b0_course st).up (by decide)) (R.map tD) [.val (skyD s w r b g l), .val (tD x), .val (.lst (R.map tD)), .own (.lst [tD x]), .un])
  rw [e] at hl
  have hl5 : st'.length = 5 := Fm.len hl
  unfold F_course
  generalize (scan s x R).map tD = SD at *
  generalize skyD s w r b g l = SK at *
  generalize R.map tD = RD at *
  generalize tD x = X at *
  clear hl
  simp (maxDischargeDepth := 12) [evSs, evS, evE, evEs, evT, evAndT, evOrT, evAnd, evOr, evC, evO, evI, bindF, thenF, nxR, getv, getb, bindP, setAll, ownD, putO, augF, frE, B1.fresh, runD, runM, outM, stF, st0, _root_.M.isNon, LIM, ev_bo, ev_be, ev_bb, ev_rs, ev_rn, ev_add, ev_sub, ev_mulr, ev_mull, ev_mod, ev_fdiv, ev_addl, ev_lt, ev_le, ev_gt, ev_ge, ev_eqi, ev_nei, ev_tb, ev_ti, ev_tn, ev_tl, ev_lenl, ev_lens, ev_lent, ev_abs, ev_int, ev_max2, ev_min2, ev_ai, ev_ixl, ev_ixs, ev_ixt, ev_sql, ev_sqs, ev_sqt, ev_rng, ev_rng2, ev_sl, ev_ss, setv_pl, pl_val, pl_own, pl_un, pl_nil, pl_cv, pl_co, pl_cu, List.getElem?_set, List.length_set, cget0, cget1, -getElem?_pos, ir_course, h1, h2, e, g3, hl5]
theorem course_no {X Y : M.D} {RD : List M.D} {x : List Int} (hx : isA s x) (h : F_check_commands_rows [skyD s w r b g l, .lst RD] = .err "InvalidCommand" (some ("command", Y))) : F_course [skyD s w r b g l, tD x, .lst RD] = .err "InvalidCommand" (some ("command", Y)) := by
  have h1 := attA_ok (r := r) (b := b) (g := g) (l := l) (w := w) hx
  unfold F_course
  generalize skyD s w r b g l = SK at *
  generalize tD x = X at *
  simp [evSs, evS, evE, evEs, evT, evAndT, evOrT, evAnd, evOr, evC, evO, evI, bindF, thenF, nxR, getv, getb, setv, bindP, setAll, ownD, putO, augF, frE, B1.fresh, runD, runM, outM, stF, st0, _root_.M.isNon, LIM, ev_bo, ev_be, ev_bb, ev_rs, ev_rn, ev_add, ev_sub, ev_mulr, ev_mull, ev_mod, ev_fdiv, ev_addl, ev_lt, ev_le, ev_gt, ev_ge, ev_eqi, ev_nei, ev_tb, ev_ti, ev_tn, ev_tl, ev_lenl, ev_lens, ev_lent, ev_abs, ev_int, ev_max2, ev_min2, ev_ai, ev_ixl, ev_ixs, ev_ixt, ev_sql, ev_sqs, ev_sqt, ev_rng, ev_rng2, ev_sl, ev_ss, ir_course, h1, h]
theorem lcu_step {st : ES} {PP T CM T' : M.D} {AD : List M.D} (hp : Pl st) (hl : st.length = 5) (h0 : st[0]? = some (.val PP)) (h3 : st[3]? = some (.own (.lst (AD ++ [T])))) (hA : AD.length < 10000) (e : F__law_commanded [PP, T, CM] = .ok T') :
    ∃ st2, evSs 100000 b0__law_course (st.set 4 (.val CM)) = .nx st2 ∧ st2[3]? = some (.own (.lst (AD ++ [T] ++ [T']))) := by
  have e1 := at_last AD T
  have e2 : (AD ++ [T]).length < 16777216 := by rw [List.length_append]; simp only [List.length_cons, List.length_nil]; omega
  generalize AD ++ [T] = A2 at *
  simp (maxDischargeDepth := 12) [evSs, evS, evE, evEs, evT, evAndT, evOrT, evAnd, evOr, evC, evO, evI, bindF, thenF, nxR, getv, getb, bindP, setAll, ownD, putO, augF, frE, B1.fresh, runD, runM, outM, stF, st0, _root_.M.isNon, LIM, ev_bo, ev_be, ev_bb, ev_rs, ev_rn, ev_add, ev_sub, ev_mulr, ev_mull, ev_mod, ev_fdiv, ev_addl, ev_lt, ev_le, ev_gt, ev_ge, ev_eqi, ev_nei, ev_tb, ev_ti, ev_tn, ev_tl, ev_lenl, ev_lens, ev_lent, ev_abs, ev_int, ev_max2, ev_min2, ev_ai, ev_ixl, ev_ixs, ev_ixt, ev_sql, ev_sqs, ev_sqt, ev_rng, ev_rng2, ev_sl, ev_ss, setv_pl, pl_val, pl_own, pl_un, pl_nil, pl_cv, pl_co, pl_cu, List.getElem?_set, List.length_set, cget0, cget1, -getElem?_pos, b0__law_course, hp, hl, h0, h3, e, e1, e2]
theorem lcu_loop (hs : 0 < s) : ∀ (R : List (List Int)) (A : List (List Int)) (x : List Int) (st : ES), (∀ t ∈ R, isC3 t) → isA s x → A.length + R.length ≤ 1000 → Pl st → st.length = 5 → st[0]? = some (.val (pD s W C)) → st[3]? = some (.own (.lst (A.map tD ++ [tD x]))) →
    ∃ st', forRun (bindP (.n 4)) (fun s => evSs 100000 b0__law_course s) (R.map tD) st = .nx st' ∧ st'[3]? = some (.own (.lst ((A ++ scan s x R).map tD)))
  | [], A, x, st, _, _, _, _, _, _, h3 => ⟨st, rfl, by rw [h3]; unfold scan; rw [List.map_append]; rfl⟩
  | cm :: R, A, x, st, hR, hx, hl2, hp, hl, h0, h3 => by
    rw [List.length_cons] at hl2
    have hc := hR cm List.mem_cons_self
    obtain ⟨z, e, g3⟩ := lcu_step hp hl h0 h3 (by rw [List.length_map]; omega) (lcomT_ok hs (isA_tri hx) (isC_tri hc))
    have hF : Fm [3, 4] st z := (Fm.set (by decide) rfl).trans (Fm.of_nx e (by decide))
    have hx' := act_A hs (isA_tri hx) (isC_tri hc)
    obtain ⟨st', e2, g⟩ := lcu_loop hs R (A ++ [x]) (act s x cm) z (fun t ht => hR t (List.mem_cons_of_mem _ ht)) hx' (by rw [List.length_append]; simp only [List.length_cons, List.length_nil]; omega) (hF.pl hp) (hF.len.trans hl) ((hF.same 0 (by decide)).trans h0) (by rw [g3]; simp only [List.map_append, List.map_cons, List.map_nil])
    refine ⟨st', ?_, ?_⟩
    · rw [List.map_cons, for_hd (setv_pl hp (by omega)), e]
      exact e2
    · rw [g, show scan s x (cm :: R) = x :: scan s (act s x cm) R from rfl, List.append_assoc]
      rfl
theorem lcourse_ok (hs : 0 < s) {x : List Int} {R : List (List Int)} (hx : isA s x) (hR : ∀ t ∈ R, isC3 t) (hl : R.length ≤ 900) : F__law_course [pD s W C, tD x, .lst (R.map tD)] = .ok (.lst ((scan s x R).map tD)) := by
  obtain ⟨st', e, g3⟩ := lcu_loop (s := s) (W := W) (C := C) hs R [] x [.val (pD s W C), .val (tD x), .val (.lst (R.map tD)), .own (.lst [tD x]), .un] hR hx (by simp only [List.length_nil]; omega) rfl rfl rfl rfl
  rw [List.nil_append] at g3
  have hl := (FmF.for_ (U := [3, 4]) (bind := bindP (.n 4)) (body := fun s => evSs 100000 b0__law_course s) (fun x st st1 h => Fm.bindP (by decide) h) (fun st => (evSs_frame 100000 b0__law_course st).up (by decide)) (R.map tD) [.val (pD s W C), .val (tD x), .val (.lst (R.map tD)), .own (.lst [tD x]), .un])
  rw [e] at hl
  have hl5 : st'.length = 5 := Fm.len hl
  unfold F__law_course
  generalize (scan s x R).map tD = SD at *
  generalize pD s W C = PP at *
  generalize R.map tD = RD at *
  generalize tD x = X at *
  clear hl
  simp (maxDischargeDepth := 12) [evSs, evS, evE, evEs, evT, evAndT, evOrT, evAnd, evOr, evC, evO, evI, bindF, thenF, nxR, getv, getb, bindP, setAll, ownD, putO, augF, frE, B1.fresh, runD, runM, outM, stF, st0, _root_.M.isNon, LIM, ev_bo, ev_be, ev_bb, ev_rs, ev_rn, ev_add, ev_sub, ev_mulr, ev_mull, ev_mod, ev_fdiv, ev_addl, ev_lt, ev_le, ev_gt, ev_ge, ev_eqi, ev_nei, ev_tb, ev_ti, ev_tn, ev_tl, ev_lenl, ev_lens, ev_lent, ev_abs, ev_int, ev_max2, ev_min2, ev_ai, ev_ixl, ev_ixs, ev_ixt, ev_sql, ev_sqs, ev_sqt, ev_rng, ev_rng2, ev_sl, ev_ss, setv_pl, pl_val, pl_own, pl_un, pl_nil, pl_cv, pl_co, pl_cu, List.getElem?_set, List.length_set, cget0, cget1, -getElem?_pos, ir__law_course, e, g3, hl5]
theorem asone_ok (hs : 4 ≤ s) {R : List (List Int)} (hR : ∀ t ∈ R, isC3 t) (hl : R.length ≤ 900) : F_as_one [skyD s w r b g l, .lst (R.map tD)] = .ok (tD (run s e3 R)) := by
  have h0 : isA s e3 := ⟨0, 0, 0, rfl, ⟨by omega, by omega⟩, ⟨by omega, by omega⟩, by decide⟩
  have h1 := course_ok (r := r) (b := b) (g := g) (l := l) (w := w) hs h0 hR hl
  have h1 : F_course [skyD s w r b g l, .tup [.int 0, .int 0, .int 0], .lst (R.map tD)] = .ok (.lst ((scan s e3 R).map tD)) := h1
  obtain ⟨B, e⟩ := scan_last (s := s) R e3
  rw [e, List.map_append] at h1
  have h2 := at_last (B.map tD) (tD (run s e3 R))
  have h1 : F_course [skyD s w r b g l, .tup [.int 0, .int 0, .int 0], .lst (R.map tD)] = .ok (.lst (B.map tD ++ [tD (run s e3 R)])) := h1
  unfold F_as_one
  generalize B.map tD ++ [tD (run s e3 R)] = BD at *
  generalize tD (run s e3 R) = X at *
  generalize skyD s w r b g l = SK at *
  generalize R.map tD = RD at *
  simp [evSs, evS, evE, evEs, evT, evAndT, evOrT, evAnd, evOr, evC, evO, evI, bindF, thenF, nxR, getv, getb, setv, bindP, setAll, ownD, putO, augF, frE, B1.fresh, runD, runM, outM, stF, st0, _root_.M.isNon, LIM, ev_bo, ev_be, ev_bb, ev_rs, ev_rn, ev_add, ev_sub, ev_mulr, ev_mull, ev_mod, ev_fdiv, ev_addl, ev_lt, ev_le, ev_gt, ev_ge, ev_eqi, ev_nei, ev_tb, ev_ti, ev_tn, ev_tl, ev_lenl, ev_lens, ev_lent, ev_abs, ev_int, ev_max2, ev_min2, ev_ai, ev_ixl, ev_ixs, ev_ixt, ev_sql, ev_sqs, ev_sqt, ev_rng, ev_rng2, ev_sl, ev_ss, ir_as_one, h1, h2]
theorem lrun_at {x : List Int} {R : List (List Int)} : atI ((scan s x R).map tD) (-1) = some (tD (run s x R)) := by
  obtain ⟨B, e⟩ := scan_last (s := s) R x
  rw [e, List.map_append]
  exact at_last _ _
end
end K47
set_option Elab.async false
set_option linter.all false
set_option maxRecDepth 100000
set_option maxHeartbeats 4000000
/-! ways and rows: the loops. -/
namespace K47
open PySem L2 M
/-! ### dicts with keys of tuples -/
theorem keyOk_t (t : List Int) : keyOk true (tD t) = true := by
  show (t.map M.D.int).all keyOk.keyOk0 = true
  rw [List.all_eq_true]
  intro x hx
  obtain ⟨i, _, rfl⟩ := List.mem_map.mp hx
  rfl
theorem beq_t (t u : List Int) : beq (tD t) (tD u) = decide (t = u) := beqs_i t u
theorem notin_dt {O : List (List Int)} {VS : List M.D} (t : List Int) : cmpD .notin (tD t) (.dic true (O.map tD) VS) = .ok (!decide (t ∈ O)) := by
  show (if keyOk true (tD t) = true then R.ok (!memK (O.map tD) (tD t)) else R.bad) = _
  rw [if_pos (keyOk_t t)]
  have : memK (O.map tD) (tD t) = decide (t ∈ O) := any_t t O
  rw [this]
theorem in_dt {O : List (List Int)} {VS : List M.D} (t : List Int) : cmpD .isin (tD t) (.dic true (O.map tD) VS) = .ok (decide (t ∈ O)) := by
  show (if keyOk true (tD t) = true then R.ok (memK (O.map tD) (tD t)) else R.bad) = _
  rw [if_pos (keyOk_t t)]
  have : memK (O.map tD) (tD t) = decide (t ∈ O) := any_t t O
  rw [this]
theorem put_dt {O : List (List Int)} {VS : List M.D} {t : List Int} {v : M.D} (h : t ∉ O) (hl : O.length < 16777216) : dputD true (O.map tD) VS (tD t) v = .ok (.dic true ((O ++ [t]).map tD) (VS ++ [v])) := by
  unfold dputD
  have hm : memK (O.map tD) (tD t) = decide (t ∈ O) := any_t t O
  rw [if_pos ⟨keyOk_t t, by rw [List.length_map]; exact hl⟩, hm, decide_eq_false h, if_neg Bool.false_ne_true, List.map_append]
  rfl
theorem look_dt : ∀ {O : List (List Int)} {VS : List M.D} {i : Nat} {t : List Int} {v : M.D}, O.Nodup → O[i]? = some t → VS[i]? = some v → dlook (O.map tD) VS (tD t) = some v
  | [], _, _, _, _, _, h, _ => by simp at h
  | _ :: _, [], _, _, _, _, _, h => by simp at h
  | x :: O, y :: VS, 0, t, v, hn, h1, h2 => by
    have h1 : x = t := by simpa using h1
    have h2 : y = v := by simpa using h2
    subst h1 h2
    rw [List.map_cons]
    unfold dlook
    rw [beq_t, decide_eq_true rfl, if_pos rfl]
  | x :: O, y :: VS, i + 1, t, v, hn, h1, h2 => by
    obtain ⟨hx, hn⟩ := List.nodup_cons.mp hn
    have h1 : O[i]? = some t := by simpa using h1
    have h2 : VS[i]? = some v := by simpa using h2
    rw [List.map_cons]
    unfold dlook
    have : ¬ x = t := fun e => hx (e ▸ List.mem_of_getElem? h1)
    rw [beq_t, decide_eq_false this, if_neg Bool.false_ne_true]
    exact look_dt hn h1 h2
theorem look_no : ∀ {O : List (List Int)} {VS : List M.D} {t : List Int}, t ∉ O → dlook (O.map tD) VS (tD t) = none
  | [], _, _, _ => rfl
  | x :: O, [], _, _ => by rw [List.map_cons]; rfl
  | x :: O, y :: VS, t, h => by
    rw [List.map_cons]
    unfold dlook
    have : ¬ x = t := fun e => h (e ▸ List.mem_cons_self)
    rw [beq_t, decide_eq_false this, if_neg Bool.false_ne_true]
    exact look_no fun z => h (List.mem_cons_of_mem _ z)
theorem idx_dt {O : List (List Int)} {VS : List M.D} {i : Nat} {t : List Int} {v : M.D} (hn : O.Nodup) (h1 : O[i]? = some t) (h2 : VS[i]? = some v) : idxD (.dic true (O.map tD) VS) (tD t) = .ok v := by
  show (if keyOk true (tD t) = true then R.of (dlook (O.map tD) VS (tD t)) else R.bad) = _
  rw [if_pos (keyOk_t t), look_dt hn h1 h2]
  rfl
def pvD : Option (List Int × List Int) → M.D
  | none => .non
  | some p => .tup [tD p.1, tD p.2]
def rvD (r : List (List Int)) : M.D := .lst (r.map tD)
def dP (S : BS) : M.D := .dic true (S.O.map tD) (S.PV.map pvD)
def dR (S : BS) : M.D := .dic true (S.O.map tD) (S.RV.map rvD)
/-! ### a while loop that goes on as far as things are reached -/
theorem wh_bfs {test : ES → R Bool} {body : ES → Fl} {s : Int} {t0 : List Int} {cs : List (List Int)} (Rl : Nat → BS → ES → Prop) (h6 : six s) (hs : 0 < s) (hct : ∀ c ∈ cs, tri3 c)
    (ht : ∀ n S st, Rl n S st → test st = .ok (decide (n < S.O.length)))
    (hb : ∀ n S st x rx, BI s t0 cs n S → S.O[n]? = some x → S.RV[n]? = some rx → Rl n S st → ∃ st2, body st = .nx st2 ∧ Rl (n + 1) (cs.foldl (stepB s x rx) S) st2) :
    ∀ (f n : Nat) (S : BS) (st : ES) (F : Nat), BI s t0 cs n S → 325 ≤ f + n → Rl n S st → f < F → ∃ st', whRun test body F st = .nx st' ∧ ∃ m, Rl m (bfs s cs f n S) st'
  | f, n, S, st, 0, _, _, _, hF => absurd hF (Nat.not_lt_zero _)
  | 0, n, S, st, F + 1, hB, hf, hr, _ => by
    have := hB.len h6
    refine ⟨st, ?_, n, hr⟩
    unfold whRun
    rw [ht n S st hr, decide_eq_false (by omega)]
    rfl
  | f + 1, n, S, st, F + 1, hB, hf, hr, hF => by
    unfold bfs
    cases hx : S.O[n]? with
    | none =>
      refine ⟨st, ?_, n, hr⟩
      unfold whRun
      have := List.getElem?_eq_none_iff.mp hx
      rw [ht n S st hr, decide_eq_false (by omega)]
      rfl
    | some x =>
      have hlt := (List.getElem?_eq_some_iff.mp hx).1
      obtain ⟨rx, hrx⟩ : ∃ rx, S.RV[n]? = some rx := ⟨_, List.getElem?_eq_getElem (by rw [hB.l2]; exact hlt)⟩
      rw [hrx]
      obtain ⟨st2, e, hr2⟩ := hb n S st x rx hB hx hrx hr
      obtain ⟨st', e2, m, hm⟩ := wh_bfs Rl h6 hs hct ht hb f (n + 1) _ st2 F (next_BI hs hct hB hx hrx) (by omega) hr2 (by omega)
      refine ⟨st', ?_, m, hm⟩
      unfold whRun
      rw [ht n S st hr, decide_eq_true hlt]
      show (match body st with
        | .nx st2 => whRun test body F st2
        | .ct st2 => whRun test body F st2
        | .bk st2 => .nx st2
        | .rt d st2 => .rt d st2
        | .er c p st2 => .er c p st2
        | .no => .no) = _
      rw [e]
      exact e2
section
variable {s r b g l : Int} {w : List (List Int)} {W C : M.D}
/-! ### ways_from -/
theorem wf_step {st : ES} {SK T X CM DN : M.D} {KS VS : List M.D} {OD : List M.D} {n : Int} {B : Bool} (hp : Pl st) (hl : st.length = 8) (h0 : st[0]? = some (.val SK)) (h3 : st[3]? = some (.own (.dic true KS VS))) (h4 : st[4]? = some (.own (.lst OD))) (h5 : st[5]? = some (.val (.int n)))
    (e1 : atI OD n = some X) (e2 : F_commanded [SK, X, CM] = .ok T) (hin : cmpD .notin T (.dic true KS VS) = .ok B) (hput : B = true → dputD true KS VS T (.tup [X, CM]) = .ok DN) (hOD : OD.length < 16777216) :
    ∃ st2, evSs 100000 b1_ways_from (st.set 6 (.val CM)) = .nx st2 ∧ (B = true → st2[3]? = some (.own DN) ∧ st2[4]? = some (.own (.lst (OD ++ [T])))) ∧ (B = false → st2[3]? = some (.own (.dic true KS VS)) ∧ st2[4]? = some (.own (.lst OD))) := by
  cases B with
  | true =>
    have hput := hput rfl
    simp (maxDischargeDepth := 12) [evSs, evS, evE, evEs, evT, evAndT, evOrT, evAnd, evOr, evC, evO, evI, bindF, thenF, nxR, getv, getb, bindP, setAll, ownD, putO, augF, frE, B1.fresh, runD, runM, outM, stF, st0, _root_.M.isNon, LIM, ev_bo, ev_be, ev_bb, ev_rs, ev_rn, ev_add, ev_sub, ev_mulr, ev_mull, ev_mod, ev_fdiv, ev_addl, ev_lt, ev_le, ev_gt, ev_ge, ev_eqi, ev_nei, ev_tb, ev_ti, ev_tn, ev_tl, ev_lenl, ev_lens, ev_lent, ev_abs, ev_int, ev_max2, ev_min2, ev_ai, ev_ixl, ev_ixs, ev_ixt, ev_sql, ev_sqs, ev_sqt, ev_rng, ev_rng2, ev_sl, ev_ss, setv_pl, pl_val, pl_own, pl_un, pl_nil, pl_cv, pl_co, pl_cu, List.getElem?_set, List.length_set, cget0, cget1, -getElem?_pos, b1_ways_from, hp, hl, h0, h3, h4, h5, e1, e2, hin, hput, hOD]
  | false => simp (maxDischargeDepth := 12) [evSs, evS, evE, evEs, evT, evAndT, evOrT, evAnd, evOr, evC, evO, evI, bindF, thenF, nxR, getv, getb, bindP, setAll, ownD, putO, augF, frE, B1.fresh, runD, runM, outM, stF, st0, _root_.M.isNon, LIM, ev_bo, ev_be, ev_bb, ev_rs, ev_rn, ev_add, ev_sub, ev_mulr, ev_mull, ev_mod, ev_fdiv, ev_addl, ev_lt, ev_le, ev_gt, ev_ge, ev_eqi, ev_nei, ev_tb, ev_ti, ev_tn, ev_tl, ev_lenl, ev_lens, ev_lent, ev_abs, ev_int, ev_max2, ev_min2, ev_ai, ev_ixl, ev_ixs, ev_ixt, ev_sql, ev_sqs, ev_sqt, ev_rng, ev_rng2, ev_sl, ev_ss, setv_pl, pl_val, pl_own, pl_un, pl_nil, pl_cv, pl_co, pl_cu, List.getElem?_set, List.length_set, cget0, cget1, -getElem?_pos, b1_ways_from, hp, hl, h0, h3, h4, h5, e1, e2, hin]
theorem wf_for {st : ES} {x : List Int} {rx cs : List (List Int)} {t0 : List Int} {n : Nat} {S : BS} (h6 : six s) (hs : 4 ≤ s) (hcs : ∀ c ∈ cs, isC3 c) (hB : BI s t0 cs n S) (hx : S.O[n]? = some x) (hrx : S.RV[n]? = some rx) (hp : Pl st) (hl : st.length = 8) (h0 : st[0]? = some (.val (skyD s w r b g l)))
    (h3 : st[3]? = some (.own (dP S))) (h4 : st[4]? = some (.own (.lst (S.O.map tD)))) (h5 : st[5]? = some (.val (.int (n : Int)))) :
    ∃ st', forRun (bindP (.n 6)) (fun s => evSs 100000 b1_ways_from s) (cs.map tD) st = .nx st' ∧ Fm [3, 4, 6, 7] st st' ∧ st'[3]? = some (.own (dP (cs.foldl (stepB s x rx) S))) ∧ st'[4]? = some (.own (.lst ((cs.foldl (stepB s x rx) S).O.map tD))) := by
  have hct : ∀ c ∈ cs, tri3 c := fun c hc => isC_tri (hcs c hc)
  obtain ⟨st', e, hF, g3, g4, _⟩ := for_rel (bind := bindP (.n 6)) (body := fun s => evSs 100000 b1_ways_from s) tD (fun _ T z => Fm [3, 4, 6, 7] st z ∧ z[3]? = some (.own (dP T)) ∧ z[4]? = some (.own (.lst (T.O.map tD))) ∧ BI s t0 cs n T ∧ Grows S T) (stepB s x rx) cs 0 S st ⟨Fm.refl _ _, h3, h4, hB, Grows.refl S⟩ (fun j c hc T z hR => by
    obtain ⟨hF, g3, g4, hBT, hG⟩ := hR
    have hcm := List.mem_of_getElem? hc
    obtain ⟨⟨o, eo⟩, _, ro, er⟩ := id hG
    have hxT : T.O[n]? = some x := by rw [eo]; exact get_app hx
    have hrT : T.RV[n]? = some rx := by rw [er]; exact get_app hrx
    have hlen := hBT.len h6
    have hxA := hBT.at_ x (List.mem_of_getElem? hxT)
    obtain ⟨q1, q2, _⟩ := step_BI (show 0 < s by omega) hBT hxT hrT hcm hct
    have hpz := hF.pl hp
    have hlz := hF.len.trans hl
    obtain ⟨z2, e2, k1, k2⟩ := wf_step (st := z) (SK := skyD s w r b g l) (X := tD x) (CM := tD c) (T := tD (act s x c)) (n := (n : Int)) (DN := .dic true ((T.O ++ [act s x c]).map tD) (T.PV.map pvD ++ [.tup [tD x, tD c]])) hpz hlz ((hF.same 0 (by decide)).trans h0) g3 g4 ((hF.same 5 (by decide)).trans h5) (atI_of (by rw [List.getElem?_map, hxT]; rfl)) (com_ok hs hxA (hcs c hcm)) (notin_dt (act s x c))
      (fun hB => put_dt (fun z => by rw [decide_eq_true z] at hB; cases hB) (by omega)) (by rw [List.length_map]; omega)
    refine ⟨_, z2, setv_pl hpz (by omega), e2, (hF.trans (Fm.set (by decide) rfl)).trans (Fm.of_nx e2 (by decide)), ?_, ?_, q1, hG.trans q2⟩
    · unfold stepB
      by_cases h : act s x c ∈ T.O
      · rw [if_pos h]
        exact (k2 (by rw [decide_eq_true h]; rfl)).1
      · rw [if_neg h]
        rw [(k1 (by rw [decide_eq_false h]; rfl)).1]
        unfold dP
        simp only [List.map_append]
        rfl
    · unfold stepB
      by_cases h : act s x c ∈ T.O
      · rw [if_pos h]
        exact (k2 (by rw [decide_eq_true h]; rfl)).2
      · rw [if_neg h]
        rw [(k1 (by rw [decide_eq_false h]; rfl)).2]
        simp only [List.map_append]
        rfl)
  exact ⟨st', e, hF, g3, g4⟩
theorem wf_b2 {st st2 : ES} {CD : List M.D} {n : Int} (hp : Pl st2) (hl : st.length = 8) (hl2 : st2.length = 8) (h2 : st[2]? = some (.val (.lst CD))) (h5 : st2[5]? = some (.val (.int n))) (e : forRun (bindP (.n 6)) (fun s => evSs 100000 b1_ways_from s) CD st = .nx st2) : evSs 100000 b2_ways_from st = .nx (st2.set 5 (.val (.int (n + 1)))) := by
  simp (maxDischargeDepth := 12) [evSs, evS, evE, evEs, evT, evAndT, evOrT, evAnd, evOr, evC, evO, evI, bindF, thenF, nxR, getv, getb, bindP, setAll, ownD, putO, augF, frE, B1.fresh, runD, runM, outM, stF, st0, _root_.M.isNon, LIM, ev_bo, ev_be, ev_bb, ev_rs, ev_rn, ev_add, ev_sub, ev_mulr, ev_mull, ev_mod, ev_fdiv, ev_addl, ev_lt, ev_le, ev_gt, ev_ge, ev_eqi, ev_nei, ev_tb, ev_ti, ev_tn, ev_tl, ev_lenl, ev_lens, ev_lent, ev_abs, ev_int, ev_max2, ev_min2, ev_ai, ev_ixl, ev_ixs, ev_ixt, ev_sql, ev_sqs, ev_sqt, ev_rng, ev_rng2, ev_sl, ev_ss, setv_pl, pl_val, pl_own, pl_un, pl_nil, pl_cv, pl_co, pl_cu, List.getElem?_set, List.length_set, cget0, cget1, -getElem?_pos, b2_ways_from, hp, hl, hl2, h2, h5, e]
structure WR (st0 : ES) (enc : BS → M.D) (n : Nat) (S : BS) (z : ES) : Prop where
  fm : Fm [3, 4, 5, 6, 7] st0 z
  d : z[3]? = some (.own (enc S))
  o : z[4]? = some (.own (.lst (S.O.map tD)))
  i : z[5]? = some (.val (.int (n : Int)))
theorem wf_while {st : ES} {cs : List (List Int)} {t0 : List Int} (h6 : six s) (hs : 4 ≤ s) (hcs : ∀ c ∈ cs, isC3 c) (h0A : isA s t0) (hp : Pl st) (hl : st.length = 8) (h0 : st[0]? = some (.val (skyD s w r b g l))) (h2 : st[2]? = some (.val (.lst (cs.map tD))))
    (h3 : st[3]? = some (.own (dP (bs0 t0)))) (h4 : st[4]? = some (.own (.lst [tD t0]))) (h5 : st[5]? = some (.val (.int 0))) :
    ∃ st', whRun (fun s => evT t0_ways_from s) (fun s => evSs 100000 b2_ways_from s) 100000 st = .nx st' ∧ Fm [3, 4, 5, 6, 7] st st' ∧ st'[3]? = some (.own (dP (bfs s cs 325 0 (bs0 t0)))) := by
  have hs0 : 0 < s := by omega
  have hct : ∀ c ∈ cs, tri3 c := fun c hc => isC_tri (hcs c hc)
  obtain ⟨st', e, m, hm⟩ := wh_bfs (test := fun s => evT t0_ways_from s) (body := fun s => evSs 100000 b2_ways_from s) (s := s) (t0 := t0) (cs := cs) (WR st dP) h6 hs0 hct (fun n S z hz => by
      obtain ⟨hF, d, o, i⟩ := hz
      have hlen : (((S.O.map tD).length : Nat) : Int) = (S.O.length : Int) := by rw [List.length_map]
      have ei : decide (n < S.O.length) = decide ((n : Int) < (S.O.length : Int)) := by
        rw [Bool.eq_iff_iff, decide_eq_true_eq, decide_eq_true_eq]; omega
      rw [ei]
      generalize (n : Int) = N at *
      generalize (S.O.length : Int) = ln at *
      generalize S.O.map tD = OD at *
      clear hF d ei
      simp (maxDischargeDepth := 12) [evSs, evS, evE, evEs, evT, evAndT, evOrT, evAnd, evOr, evC, evO, evI, bindF, thenF, nxR, getv, getb, bindP, setAll, ownD, putO, augF, frE, B1.fresh, runD, runM, outM, stF, st0, _root_.M.isNon, LIM, ev_bo, ev_be, ev_bb, ev_rs, ev_rn, ev_add, ev_sub, ev_mulr, ev_mull, ev_mod, ev_fdiv, ev_addl, ev_lt, ev_le, ev_gt, ev_ge, ev_eqi, ev_nei, ev_tb, ev_ti, ev_tn, ev_tl, ev_lenl, ev_lens, ev_lent, ev_abs, ev_int, ev_max2, ev_min2, ev_ai, ev_ixl, ev_ixs, ev_ixt, ev_sql, ev_sqs, ev_sqt, ev_rng, ev_rng2, ev_sl, ev_ss, setv_pl, pl_val, pl_own, pl_un, pl_nil, pl_cv, pl_co, pl_cu, List.getElem?_set, List.length_set, cget0, cget1, -getElem?_pos, t0_ways_from, o, i, hlen]) (fun n S z x rx hB hx hrx hz => by
      obtain ⟨hF, d, o, i⟩ := hz
      have hpz := hF.pl hp
      have hlz := hF.len.trans hl
      obtain ⟨z2, e, hF2, g3, g4⟩ := wf_for (r := r) (b := b) (g := g) (l := l) (w := w) h6 hs hcs hB hx hrx hpz hlz ((hF.same 0 (by decide)).trans h0) d o i
      have i2 := (hF2.same 5 (by decide)).trans i
      refine ⟨_, wf_b2 (hF2.pl hpz) hlz (hF2.len.trans hlz) ((hF.same 2 (by decide)).trans h2) i2 e, (hF.trans (hF2.up (by decide))).trans (Fm.set (by decide) rfl), (set_ne (by decide)).trans g3, (set_ne (by decide)).trans g4, ?_⟩
      rw [set_at (by rw [hF2.len]; omega)]
      rfl) 325 0 (bs0 t0) st 100000 (BI0 h0A) (by decide) ⟨Fm.refl _ _, h3, h4, h5⟩ (by decide)
  exact ⟨st', e, hm.fm, hm.d⟩
theorem ways_ok {cs : List (List Int)} {t0 : List Int} (h6 : six s) (hs : 4 ≤ s) (hcs : ∀ c ∈ cs, isC3 c) (h0A : isA s t0) : F_ways_from [skyD s w r b g l, tD t0, .lst (cs.map tD)] = .ok (dP (bfs s cs 325 0 (bs0 t0))) := by
  obtain ⟨st', e, hF, g3⟩ := wf_while (r := r) (b := b) (g := g) (l := l) (w := w) (st := [.val (skyD s w r b g l), .val (tD t0), .val (.lst (cs.map tD)), .own (dP (bs0 t0)), .own (.lst [tD t0]), .val (.int 0), .un, .un]) h6 hs hcs h0A rfl rfl rfl rfl rfl rfl rfl
  have hl := hF.len
  have hl8 : st'.length = 8 := hl
  have hk := keyOk_t t0
  have hd0 : dP (bs0 t0) = .dic true [tD t0] [.non] := rfl
  rw [hd0] at e
  clear hF hl hd0
  unfold F_ways_from
  generalize dP (bfs s cs 325 0 (bs0 t0)) = DD at *
  generalize skyD s w r b g l = SK at *
  generalize tD t0 = T at *
  generalize cs.map tD = CD at *
  simp (maxDischargeDepth := 12) [evSs, evS, evE, evEs, evT, evAndT, evOrT, evAnd, evOr, evC, evO, evI, bindF, thenF, nxR, getv, getb, bindP, setAll, ownD, putO, augF, frE, B1.fresh, runD, runM, outM, stF, st0, _root_.M.isNon, LIM, ev_bo, ev_be, ev_bb, ev_rs, ev_rn, ev_add, ev_sub, ev_mulr, ev_mull, ev_mod, ev_fdiv, ev_addl, ev_lt, ev_le, ev_gt, ev_ge, ev_eqi, ev_nei, ev_tb, ev_ti, ev_tn, ev_tl, ev_lenl, ev_lens, ev_lent, ev_abs, ev_int, ev_max2, ev_min2, ev_ai, ev_ixl, ev_ixs, ev_ixt, ev_sql, ev_sqs, ev_sqt, ev_rng, ev_rng2, ev_sl, ev_ss, setv_pl, pl_val, pl_own, pl_un, pl_nil, pl_cv, pl_co, pl_cu, List.getElem?_set, List.length_set, cget0, cget1, -getElem?_pos, ir_ways_from, hk, noErr, e, g3, hl8]
/-! ### the law's rows -/
theorem lr_step {st : ES} {PP T X CM DN : M.D} {KS VS RL : List M.D} {OD : List M.D} {n : Int} {B : Bool} (hp : Pl st) (hl : st.length = 8) (h0 : st[0]? = some (.val PP)) (h3 : st[3]? = some (.own (.dic true KS VS))) (h4 : st[4]? = some (.own (.lst OD))) (h5 : st[5]? = some (.val (.int n)))
    (e1 : atI OD n = some X) (e2 : F__law_commanded [PP, X, CM] = .ok T) (hin : cmpD .notin T (.dic true KS VS) = .ok B) (ei : idxD (.dic true KS VS) X = .ok (.lst RL)) (hRL : RL.length ≤ 10000) (hput : B = true → dputD true KS VS T (.lst (RL ++ [CM])) = .ok DN) (hOD : OD.length < 16777216) :
    ∃ st2, evSs 100000 b1__law_rows (st.set 6 (.val CM)) = .nx st2 ∧ (B = true → st2[3]? = some (.own DN) ∧ st2[4]? = some (.own (.lst (OD ++ [T])))) ∧ (B = false → st2[3]? = some (.own (.dic true KS VS)) ∧ st2[4]? = some (.own (.lst OD))) := by
  have ha : binD .add (.lst RL) (.lst [CM]) = .ok (.lst (RL ++ [CM])) := ev_addl (by simp only [List.length_cons, List.length_nil]; omega)
  cases B with
  | true =>
    have hput := hput rfl
    simp (maxDischargeDepth := 12) [evSs, evS, evE, evEs, evT, evAndT, evOrT, evAnd, evOr, evC, evO, evI, bindF, thenF, nxR, getv, getb, bindP, setAll, ownD, putO, augF, frE, B1.fresh, runD, runM, outM, stF, st0, _root_.M.isNon, LIM, ev_bo, ev_be, ev_bb, ev_rs, ev_rn, ev_add, ev_sub, ev_mulr, ev_mull, ev_mod, ev_fdiv, ev_addl, ev_lt, ev_le, ev_gt, ev_ge, ev_eqi, ev_nei, ev_tb, ev_ti, ev_tn, ev_tl, ev_lenl, ev_lens, ev_lent, ev_abs, ev_int, ev_max2, ev_min2, ev_ai, ev_ixl, ev_ixs, ev_ixt, ev_sql, ev_sqs, ev_sqt, ev_rng, ev_rng2, ev_sl, ev_ss, setv_pl, pl_val, pl_own, pl_un, pl_nil, pl_cv, pl_co, pl_cu, List.getElem?_set, List.length_set, cget0, cget1, -getElem?_pos, b1__law_rows, hp, hl, h0, h3, h4, h5, e1, e2, hin, ei, ha, hput, hOD, -ev_addl]
  | false => simp (maxDischargeDepth := 12) [evSs, evS, evE, evEs, evT, evAndT, evOrT, evAnd, evOr, evC, evO, evI, bindF, thenF, nxR, getv, getb, bindP, setAll, ownD, putO, augF, frE, B1.fresh, runD, runM, outM, stF, st0, _root_.M.isNon, LIM, ev_bo, ev_be, ev_bb, ev_rs, ev_rn, ev_add, ev_sub, ev_mulr, ev_mull, ev_mod, ev_fdiv, ev_addl, ev_lt, ev_le, ev_gt, ev_ge, ev_eqi, ev_nei, ev_tb, ev_ti, ev_tn, ev_tl, ev_lenl, ev_lens, ev_lent, ev_abs, ev_int, ev_max2, ev_min2, ev_ai, ev_ixl, ev_ixs, ev_ixt, ev_sql, ev_sqs, ev_sqt, ev_rng, ev_rng2, ev_sl, ev_ss, setv_pl, pl_val, pl_own, pl_un, pl_nil, pl_cv, pl_co, pl_cu, List.getElem?_set, List.length_set, cget0, cget1, -getElem?_pos, b1__law_rows, hp, hl, h0, h3, h4, h5, e1, e2, hin]
theorem lr_for {st : ES} {x : List Int} {rx cs : List (List Int)} {t0 : List Int} {n : Nat} {S : BS} (h6 : six s) (hs : 4 ≤ s) (hcs : ∀ c ∈ cs, isC3 c) (hB : BI s t0 cs n S) (hx : S.O[n]? = some x) (hrx : S.RV[n]? = some rx) (hrl : rx.length ≤ 400) (hp : Pl st) (hl : st.length = 8) (h0 : st[0]? = some (.val (pD s W C)))
    (h3 : st[3]? = some (.own (dR S))) (h4 : st[4]? = some (.own (.lst (S.O.map tD)))) (h5 : st[5]? = some (.val (.int (n : Int)))) :
    ∃ st', forRun (bindP (.n 6)) (fun s => evSs 100000 b1__law_rows s) (cs.map tD) st = .nx st' ∧ Fm [3, 4, 6, 7] st st' ∧ st'[3]? = some (.own (dR (cs.foldl (stepB s x rx) S))) ∧ st'[4]? = some (.own (.lst ((cs.foldl (stepB s x rx) S).O.map tD))) := by
  have hct : ∀ c ∈ cs, tri3 c := fun c hc => isC_tri (hcs c hc)
  obtain ⟨st', e, hF, g3, g4, _⟩ := for_rel (bind := bindP (.n 6)) (body := fun s => evSs 100000 b1__law_rows s) tD (fun _ T z => Fm [3, 4, 6, 7] st z ∧ z[3]? = some (.own (dR T)) ∧ z[4]? = some (.own (.lst (T.O.map tD))) ∧ BI s t0 cs n T ∧ Grows S T) (stepB s x rx) cs 0 S st ⟨Fm.refl _ _, h3, h4, hB, Grows.refl S⟩ (fun j c hc T z hR => by
    obtain ⟨hF, g3, g4, hBT, hG⟩ := hR
    have hcm := List.mem_of_getElem? hc
    obtain ⟨⟨o, eo⟩, _, ro, er⟩ := id hG
    have hxT : T.O[n]? = some x := by rw [eo]; exact get_app hx
    have hrT : T.RV[n]? = some rx := by rw [er]; exact get_app hrx
    have hlen := hBT.len h6
    have hxA := hBT.at_ x (List.mem_of_getElem? hxT)
    obtain ⟨q1, q2, _⟩ := step_BI (show 0 < s by omega) hBT hxT hrT hcm hct
    have hpz := hF.pl hp
    have hlz := hF.len.trans hl
    obtain ⟨z2, e2, k1, k2⟩ := lr_step (st := z) (PP := pD s W C) (X := tD x) (CM := tD c) (T := tD (act s x c)) (n := (n : Int)) (RL := rx.map tD) (DN := .dic true ((T.O ++ [act s x c]).map tD) (T.RV.map rvD ++ [.lst (rx.map tD ++ [tD c])])) hpz hlz ((hF.same 0 (by decide)).trans h0) g3 g4 ((hF.same 5 (by decide)).trans h5) (atI_of (by rw [List.getElem?_map, hxT]; rfl)) (lcomT_ok (by omega) (isA_tri hxA) (hct c hcm)) (notin_dt (act s x c))
      (idx_dt hBT.nd hxT (by rw [List.getElem?_map, hrT]; rfl)) (by rw [List.length_map]; omega) (fun hB => put_dt (fun z => by rw [decide_eq_true z] at hB; cases hB) (by omega)) (by rw [List.length_map]; omega)
    refine ⟨_, z2, setv_pl hpz (by omega), e2, (hF.trans (Fm.set (by decide) rfl)).trans (Fm.of_nx e2 (by decide)), ?_, ?_, q1, hG.trans q2⟩
    · unfold stepB
      by_cases h : act s x c ∈ T.O
      · rw [if_pos h]
        exact (k2 (by rw [decide_eq_true h]; rfl)).1
      · rw [if_neg h]
        rw [(k1 (by rw [decide_eq_false h]; rfl)).1]
        unfold dR
        simp only [List.map_append, List.map_cons, List.map_nil, rvD]
    · unfold stepB
      by_cases h : act s x c ∈ T.O
      · rw [if_pos h]
        exact (k2 (by rw [decide_eq_true h]; rfl)).2
      · rw [if_neg h]
        rw [(k1 (by rw [decide_eq_false h]; rfl)).2]
        simp only [List.map_append]
        rfl)
  exact ⟨st', e, hF, g3, g4⟩
theorem lr_b2 {st st2 : ES} {CD : List M.D} {n : Int} (hp : Pl st2) (hl : st.length = 8) (hl2 : st2.length = 8) (h2 : st[2]? = some (.val (.lst CD))) (h5 : st2[5]? = some (.val (.int n))) (e : forRun (bindP (.n 6)) (fun s => evSs 100000 b1__law_rows s) CD st = .nx st2) : evSs 100000 b2__law_rows st = .nx (st2.set 5 (.val (.int (n + 1)))) := by
  simp (maxDischargeDepth := 12) [evSs, evS, evE, evEs, evT, evAndT, evOrT, evAnd, evOr, evC, evO, evI, bindF, thenF, nxR, getv, getb, bindP, setAll, ownD, putO, augF, frE, B1.fresh, runD, runM, outM, stF, st0, _root_.M.isNon, LIM, ev_bo, ev_be, ev_bb, ev_rs, ev_rn, ev_add, ev_sub, ev_mulr, ev_mull, ev_mod, ev_fdiv, ev_addl, ev_lt, ev_le, ev_gt, ev_ge, ev_eqi, ev_nei, ev_tb, ev_ti, ev_tn, ev_tl, ev_lenl, ev_lens, ev_lent, ev_abs, ev_int, ev_max2, ev_min2, ev_ai, ev_ixl, ev_ixs, ev_ixt, ev_sql, ev_sqs, ev_sqt, ev_rng, ev_rng2, ev_sl, ev_ss, setv_pl, pl_val, pl_own, pl_un, pl_nil, pl_cv, pl_co, pl_cu, List.getElem?_set, List.length_set, cget0, cget1, -getElem?_pos, b2__law_rows, hp, hl, hl2, h2, h5, e]
/-- rows are no longer than the place at which they stand -/
theorem BI.rl {t0 : List Int} {cs : List (List Int)} {n : Nat} {S : BS} (h : BI s t0 cs n S) : ∀ (i : Nat) (r : List (List Int)), S.RV[i]? = some r → r.length ≤ i := by
  intro i
  induction i using Nat.strongRecOn with
  | _ i ih =>
    intro r hr
    have hi : i < S.O.length := by rw [← h.l2]; exact (List.getElem?_eq_some_iff.mp hr).1
    rcases h.par i hi with ⟨rfl, _, h3⟩ | ⟨j, p, c, q, hj, _, _, h4, h5⟩
    · rw [hr] at h3; cases h3; exact Nat.le_refl _
    · rw [hr] at h5; cases h5
      have := ih j hj q h4
      rw [List.length_append]
      simp only [List.length_cons, List.length_nil]
      omega
theorem lr_while {st : ES} {cs : List (List Int)} {t0 : List Int} (h6 : six s) (hs : 4 ≤ s) (hcs : ∀ c ∈ cs, isC3 c) (h0A : isA s t0) (hp : Pl st) (hl : st.length = 8) (h0 : st[0]? = some (.val (pD s W C))) (h2 : st[2]? = some (.val (.lst (cs.map tD))))
    (h3 : st[3]? = some (.own (dR (bs0 t0)))) (h4 : st[4]? = some (.own (.lst [tD t0]))) (h5 : st[5]? = some (.val (.int 0))) :
    ∃ st', whRun (fun s => evT t0__law_rows s) (fun s => evSs 100000 b2__law_rows s) 100000 st = .nx st' ∧ Fm [3, 4, 5, 6, 7] st st' ∧ st'[3]? = some (.own (dR (bfs s cs 325 0 (bs0 t0)))) := by
  have hs0 : 0 < s := by omega
  have hct : ∀ c ∈ cs, tri3 c := fun c hc => isC_tri (hcs c hc)
  obtain ⟨st', e, m, hm⟩ := wh_bfs (test := fun s => evT t0__law_rows s) (body := fun s => evSs 100000 b2__law_rows s) (s := s) (t0 := t0) (cs := cs) (WR st dR) h6 hs0 hct (fun n S z hz => by
      obtain ⟨hF, d, o, i⟩ := hz
      have hlen : (((S.O.map tD).length : Nat) : Int) = (S.O.length : Int) := by rw [List.length_map]
      have ei : decide (n < S.O.length) = decide ((n : Int) < (S.O.length : Int)) := by
        rw [Bool.eq_iff_iff, decide_eq_true_eq, decide_eq_true_eq]; omega
      rw [ei]
      generalize (n : Int) = N at *
      generalize (S.O.length : Int) = ln at *
      generalize S.O.map tD = OD at *
      clear hF d ei
      simp (maxDischargeDepth := 12) [evSs, evS, evE, evEs, evT, evAndT, evOrT, evAnd, evOr, evC, evO, evI, bindF, thenF, nxR, getv, getb, bindP, setAll, ownD, putO, augF, frE, B1.fresh, runD, runM, outM, stF, st0, _root_.M.isNon, LIM, ev_bo, ev_be, ev_bb, ev_rs, ev_rn, ev_add, ev_sub, ev_mulr, ev_mull, ev_mod, ev_fdiv, ev_addl, ev_lt, ev_le, ev_gt, ev_ge, ev_eqi, ev_nei, ev_tb, ev_ti, ev_tn, ev_tl, ev_lenl, ev_lens, ev_lent, ev_abs, ev_int, ev_max2, ev_min2, ev_ai, ev_ixl, ev_ixs, ev_ixt, ev_sql, ev_sqs, ev_sqt, ev_rng, ev_rng2, ev_sl, ev_ss, setv_pl, pl_val, pl_own, pl_un, pl_nil, pl_cv, pl_co, pl_cu, List.getElem?_set, List.length_set, cget0, cget1, -getElem?_pos, t0__law_rows, o, i, hlen]) (fun n S z x rx hB hx hrx hz => by
      obtain ⟨hF, d, o, i⟩ := hz
      have hpz := hF.pl hp
      have hlz := hF.len.trans hl
      have hrl := hB.rl n rx hrx
      have hnl := (List.getElem?_eq_some_iff.mp hx).1
      have := hB.len h6
      obtain ⟨z2, e, hF2, g3, g4⟩ := lr_for (W := W) (C := C) h6 hs hcs hB hx hrx (by omega) hpz hlz ((hF.same 0 (by decide)).trans h0) d o i
      have i2 := (hF2.same 5 (by decide)).trans i
      refine ⟨_, lr_b2 (hF2.pl hpz) hlz (hF2.len.trans hlz) ((hF.same 2 (by decide)).trans h2) i2 e, (hF.trans (hF2.up (by decide))).trans (Fm.set (by decide) rfl), (set_ne (by decide)).trans g3, (set_ne (by decide)).trans g4, ?_⟩
      rw [set_at (by rw [hF2.len]; omega)]
      rfl) 325 0 (bs0 t0) st 100000 (BI0 h0A) (by decide) ⟨Fm.refl _ _, h3, h4, h5⟩ (by decide)
  exact ⟨st', e, hm.fm, hm.d⟩
theorem lrows_ok {cs : List (List Int)} {t0 : List Int} (h6 : six s) (hs : 4 ≤ s) (hcs : ∀ c ∈ cs, isC3 c) (h0A : isA s t0) : F__law_rows [pD s W C, tD t0, .lst (cs.map tD)] = .ok (dR (bfs s cs 325 0 (bs0 t0))) := by
  obtain ⟨st', e, hF, g3⟩ := lr_while (W := W) (C := C) (st := [.val (pD s W C), .val (tD t0), .val (.lst (cs.map tD)), .own (dR (bs0 t0)), .own (.lst [tD t0]), .val (.int 0), .un, .un]) h6 hs hcs h0A rfl rfl rfl rfl rfl rfl rfl
  have hl := hF.len
  have hl8 : st'.length = 8 := hl
  have hk := keyOk_t t0
  have hd0 : dR (bs0 t0) = .dic true [tD t0] [.lst []] := rfl
  rw [hd0] at e
  clear hF hl hd0
  unfold F__law_rows
  generalize dR (bfs s cs 325 0 (bs0 t0)) = DD at *
  generalize pD s W C = PP at *
  generalize tD t0 = T at *
  generalize cs.map tD = CD at *
  simp (maxDischargeDepth := 12) [evSs, evS, evE, evEs, evT, evAndT, evOrT, evAnd, evOr, evC, evO, evI, bindF, thenF, nxR, getv, getb, bindP, setAll, ownD, putO, augF, frE, B1.fresh, runD, runM, outM, stF, st0, _root_.M.isNon, LIM, ev_bo, ev_be, ev_bb, ev_rs, ev_rn, ev_add, ev_sub, ev_mulr, ev_mull, ev_mod, ev_fdiv, ev_addl, ev_lt, ev_le, ev_gt, ev_ge, ev_eqi, ev_nei, ev_tb, ev_ti, ev_tn, ev_tl, ev_lenl, ev_lens, ev_lent, ev_abs, ev_int, ev_max2, ev_min2, ev_ai, ev_ixl, ev_ixs, ev_ixt, ev_sql, ev_sqs, ev_sqt, ev_rng, ev_rng2, ev_sl, ev_ss, setv_pl, pl_val, pl_own, pl_un, pl_nil, pl_cv, pl_co, pl_cu, List.getElem?_set, List.length_set, cget0, cget1, -getElem?_pos, ir__law_rows, hk, noErr, e, g3, hl8]
/-! ### a row along the ways -/
theorem ra_body {st : ES} {T P CM : M.D} {KS VS RD : List M.D} (hp : Pl st) (hl : st.length = 4) (h0 : st[0]? = some (.val (.dic true KS VS))) (h1 : st[1]? = some (.val T)) (h2 : st[2]? = some (.own (.lst RD))) (e : idxD (.dic true KS VS) T = .ok (.tup [P, CM])) (hR : RD.length < 16777216) :
    evT t0_row_along st = .ok true ∧ ∃ st2, evSs 100000 b1_row_along st = .nx st2 ∧ st2[1]? = some (.val P) ∧ st2[2]? = some (.own (.lst (RD ++ [CM]))) := by
  constructor
  · simp (maxDischargeDepth := 12) [evSs, evS, evE, evEs, evT, evAndT, evOrT, evAnd, evOr, evC, evO, evI, bindF, thenF, nxR, getv, getb, bindP, setAll, ownD, putO, augF, frE, B1.fresh, runD, runM, outM, stF, st0, _root_.M.isNon, LIM, ev_bo, ev_be, ev_bb, ev_rs, ev_rn, ev_add, ev_sub, ev_mulr, ev_mull, ev_mod, ev_fdiv, ev_addl, ev_lt, ev_le, ev_gt, ev_ge, ev_eqi, ev_nei, ev_tb, ev_ti, ev_tn, ev_tl, ev_lenl, ev_lens, ev_lent, ev_abs, ev_int, ev_max2, ev_min2, ev_ai, ev_ixl, ev_ixs, ev_ixt, ev_sql, ev_sqs, ev_sqt, ev_rng, ev_rng2, ev_sl, ev_ss, setv_pl, pl_val, pl_own, pl_un, pl_nil, pl_cv, pl_co, pl_cu, List.getElem?_set, List.length_set, cget0, cget1, -getElem?_pos, t0_row_along, h0, h1, e]
  · simp (maxDischargeDepth := 12) [evSs, evS, evE, evEs, evT, evAndT, evOrT, evAnd, evOr, evC, evO, evI, bindF, thenF, nxR, getv, getb, bindP, setAll, ownD, putO, augF, frE, B1.fresh, runD, runM, outM, stF, st0, _root_.M.isNon, LIM, ev_bo, ev_be, ev_bb, ev_rs, ev_rn, ev_add, ev_sub, ev_mulr, ev_mull, ev_mod, ev_fdiv, ev_addl, ev_lt, ev_le, ev_gt, ev_ge, ev_eqi, ev_nei, ev_tb, ev_ti, ev_tn, ev_tl, ev_lenl, ev_lens, ev_lent, ev_abs, ev_int, ev_max2, ev_min2, ev_ai, ev_ixl, ev_ixs, ev_ixt, ev_sql, ev_sqs, ev_sqt, ev_rng, ev_rng2, ev_sl, ev_ss, setv_pl, pl_val, pl_own, pl_un, pl_nil, pl_cv, pl_co, pl_cu, List.getElem?_set, List.length_set, cget0, cget1, -getElem?_pos, b1_row_along, hp, hl, h0, h1, h2, e, hR]
theorem ra_end {st : ES} {T : M.D} {KS VS : List M.D} (h0 : st[0]? = some (.val (.dic true KS VS))) (h1 : st[1]? = some (.val T)) (e : idxD (.dic true KS VS) T = .ok .non) : evT t0_row_along st = .ok false := by
  simp (maxDischargeDepth := 12) [evSs, evS, evE, evEs, evT, evAndT, evOrT, evAnd, evOr, evC, evO, evI, bindF, thenF, nxR, getv, getb, bindP, setAll, ownD, putO, augF, frE, B1.fresh, runD, runM, outM, stF, st0, _root_.M.isNon, LIM, ev_bo, ev_be, ev_bb, ev_rs, ev_rn, ev_add, ev_sub, ev_mulr, ev_mull, ev_mod, ev_fdiv, ev_addl, ev_lt, ev_le, ev_gt, ev_ge, ev_eqi, ev_nei, ev_tb, ev_ti, ev_tn, ev_tl, ev_lenl, ev_lens, ev_lent, ev_abs, ev_int, ev_max2, ev_min2, ev_ai, ev_ixl, ev_ixs, ev_ixt, ev_sql, ev_sqs, ev_sqt, ev_rng, ev_rng2, ev_sl, ev_ss, setv_pl, pl_val, pl_own, pl_un, pl_nil, pl_cv, pl_co, pl_cu, List.getElem?_set, List.length_set, cget0, cget1, -getElem?_pos, t0_row_along, h0, h1, e]
theorem ra_loop {t0 : List Int} {cs : List (List Int)} {n : Nat} {S : BS} (hB : BI s t0 cs n S) (h6 : six s) : ∀ (i : Nat) (t : List Int) (r A : List (List Int)) (st : ES) (F : Nat), S.O[i]? = some t → S.RV[i]? = some r → i < F → A.length + i ≤ 1000 → Pl st → st.length = 4 → st[0]? = some (.val (dP S)) → st[1]? = some (.val (tD t)) → st[2]? = some (.own (.lst (A.map tD))) →
    ∃ st', whRun (fun s => evT t0_row_along s) (fun s => evSs 100000 b1_row_along s) F st = .nx st' ∧ st'[2]? = some (.own (.lst ((A ++ r.reverse).map tD))) ∧ st'.length = 4 := by
  intro i
  induction i using Nat.strongRecOn with
  | _ i ih =>
    intro t r A st F ht hr hF hA hp hl h0 h1 h2
    obtain ⟨F, rfl⟩ : ∃ F', F = F' + 1 := ⟨F - 1, by omega⟩
    have hi := (List.getElem?_eq_some_iff.mp ht).1
    rcases hB.par i hi with ⟨rfl, k2, k3⟩ | ⟨j, p, c, q, hj, k1, k2, k4, k5⟩
    · rw [hr] at k3
      cases k3
      have e := idx_dt (VS := S.PV.map pvD) hB.nd ht (v := .non) (by rw [List.getElem?_map, k2]; rfl)
      refine ⟨st, ?_, ?_, hl⟩
      · unfold whRun
        rw [ra_end h0 h1 e]
        rfl
      · rw [h2]; simp
    · rw [hr] at k5
      cases k5
      have e := idx_dt (VS := S.PV.map pvD) hB.nd ht (v := .tup [tD p, tD c]) (by rw [List.getElem?_map, k2]; rfl)
      obtain ⟨e1, z, e2, g1, g2⟩ := ra_body hp hl h0 h1 h2 e (by rw [List.length_map]; omega)
      have hFm : Fm [1, 2, 3] st z := Fm.of_nx e2 (by decide)
      obtain ⟨st', e3, g3, g4⟩ := ih j hj p q (A ++ [c]) z F k1 k4 (by omega) (by rw [List.length_append]; simp only [List.length_cons, List.length_nil]; omega) (hFm.pl hp) (hFm.len.trans hl) ((hFm.same 0 (by decide)).trans h0) g1 (by rw [g2, List.map_append]; rfl)
      refine ⟨st', ?_, ?_, g4⟩
      · unfold whRun
        rw [e1]
        show (match evSs 100000 b1_row_along st with
          | .nx st2 => whRun (fun s => evT t0_row_along s) (fun s => evSs 100000 b1_row_along s) F st2
          | .ct st2 => whRun (fun s => evT t0_row_along s) (fun s => evSs 100000 b1_row_along s) F st2
          | .bk st2 => .nx st2
          | .rt d st2 => .rt d st2
          | .er c p st2 => .er c p st2
          | .no => .no) = _
        rw [e2]
        exact e3
      · rw [g3, List.reverse_append, List.append_assoc]
        rfl
theorem along_ok {t0 : List Int} {cs : List (List Int)} {n : Nat} {S : BS} (hB : BI s t0 cs n S) (h6 : six s) {i : Nat} {t : List Int} {q : List (List Int)} (ht : S.O[i]? = some t) (hr : S.RV[i]? = some q) : F_row_along [dP S, tD t] = .ok (.lst (q.map tD)) := by
  have hi := (List.getElem?_eq_some_iff.mp ht).1
  have := hB.len h6
  obtain ⟨st', e, g2, hl⟩ := ra_loop hB h6 i t q [] [.val (dP S), .val (tD t), .own (.lst []), .un] 100000 ht hr (by omega) (by simp only [List.length_nil]; omega) rfl rfl rfl rfl rfl
  rw [List.nil_append] at g2
  have hrev : (q.reverse.map tD).reverse = q.map tD := by rw [List.map_reverse, List.reverse_reverse]
  unfold F_row_along
  refine rt_of (st := [.val (dP S), .val (tD t), .un, .un]) (d := .lst (q.map tD)) (st' := st') rfl ?_
  rw [← hrev]
  generalize q.reverse.map tD = QD at *
  generalize dP S = DD at *
  generalize tD t = T at *
  simp (maxDischargeDepth := 12) [evSs, evS, evE, evEs, evT, evAndT, evOrT, evAnd, evOr, evC, evO, evI, bindF, thenF, nxR, getv, getb, bindP, setAll, ownD, putO, augF, frE, B1.fresh, runD, runM, outM, stF, st0, _root_.M.isNon, LIM, ev_bo, ev_be, ev_bb, ev_rs, ev_rn, ev_add, ev_sub, ev_mulr, ev_mull, ev_mod, ev_fdiv, ev_addl, ev_lt, ev_le, ev_gt, ev_ge, ev_eqi, ev_nei, ev_tb, ev_ti, ev_tn, ev_tl, ev_lenl, ev_lens, ev_lent, ev_abs, ev_int, ev_max2, ev_min2, ev_ai, ev_ixl, ev_ixs, ev_ixt, ev_sql, ev_sqs, ev_sqt, ev_rng, ev_rng2, ev_sl, ev_ss, setv_pl, pl_val, pl_own, pl_un, pl_nil, pl_cv, pl_co, pl_cu, List.getElem?_set, List.length_set, cget0, cget1, -getElem?_pos, ir_row_along, e, g2, hl]
end
end K47
set_option Elab.async false
set_option linter.all false
set_option maxRecDepth 100000
set_option maxHeartbeats 4000000
/-! the law. -/
namespace K47
open PySem L2 M
theorem lcRun_ex {α : Type} {b : M.D → ES → R ES} {st0 : ES} {t : ES → R Bool} {e : ES → R M.D} {enc : α → M.D} {Q : α → Prop} : ∀ (l : List M.D), (∀ x ∈ l, ∃ st y, b x st0 = .ok st ∧ t st = .ok true ∧ e st = .ok (enc y) ∧ Q y) → ∃ ys : List α, lcRun (fun x => b x st0) t e l = .ok (ys.map enc) ∧ ys.length = l.length ∧ ∀ y ∈ ys, Q y
  | [], _ => ⟨[], rfl, rfl, fun _ h => by cases h⟩
  | x :: l, h => by
    obtain ⟨st, y, e1, e2, e3, hy⟩ := h x List.mem_cons_self
    obtain ⟨ys, e4, hl, hq⟩ := lcRun_ex (b := b) (st0 := st0) (t := t) (e := e) (enc := enc) (Q := Q) l fun z hz => h z (List.mem_cons_of_mem _ hz)
    refine ⟨y :: ys, ?_, by rw [List.length_cons, List.length_cons, hl], fun z hz => ?_⟩
    · unfold lcRun
      simp only [e1, e2, e3, e4, ev_bo]
      rfl
    · rcases List.mem_cons.mp hz with rfl | hz
      · exact hy
      · exact hq z hz
theorem sortDic_t' {L : List (List Int)} {VS : List M.D} (h : ∀ t ∈ L, t ≠ []) : b1D .sorted (.dic true (L.map tD) VS) = .ok (.lst ((sortT L).map tD)) := by
  show (match asTups (L.map tD) with
    | some ts => if ts.all (fun (t : List Int) => !t.isEmpty) then R.ok (M.D.lst ((sortT ts).map fun (t : List Int) => M.D.tup (t.map M.D.int))) else R.bad
    | none => R.bad) = _
  rw [asTups_t]
  simp only
  rw [if_pos (List.all_eq_true.mpr fun t ht => by
    cases t with
    | nil => exact absurd rfl (h _ ht)
    | cons _ _ => rfl)]
  rfl
theorem evI_r1 {e : IE} {st : ES} {n : Int} {IL : List M.D} (h : evE e st = .ok (.int n)) (hr : rangeD (.int n) = .ok IL) : evI (.r1 e) st = .ok IL := by
  rw [evI, h, ev_bo, hr]
theorem for_nx {fu : Nat} {p : Pat} {it : IT} {b : ISs} {st st' : ES} {l : List M.D} (hI : evI it st = .ok l) (e : forRun (bindP p) (fun s => evSs fu b s) l st = .nx st') : evS fu (.for_ p it b) st = .nx st' := by
  rw [evS, hI]
  exact e
section
variable {s r b g l : Int} {w : List (List Int)} {W C : M.D}
theorem isA_ne {t : List Int} (h : isA s t) : t ≠ [] := by
  obtain ⟨a, c, q, rfl, _⟩ := h
  exact fun z => by cases z
theorem reached_ok {cs : List (List Int)} {t0 : List Int} (h6 : six s) (hs : 4 ≤ s) (hcs : ∀ c ∈ cs, isC3 c) (h0A : isA s t0) {m : Nat} (hB : BI s t0 cs m (bfs s cs 325 0 (bs0 t0))) : F_reached [skyD s w r b g l, tD t0, .lst (cs.map tD)] = .ok (.lst ((sortT (bfs s cs 325 0 (bs0 t0)).O).map tD)) := by
  have h1 := attA_ok (r := r) (b := b) (g := g) (l := l) (w := w) h0A
  have h2 := cct_ok (r := r) (b := b) (g := g) (l := l) (w := w) hs hcs
  have h3 := ways_ok (r := r) (b := b) (g := g) (l := l) (w := w) h6 hs hcs h0A
  have h4 : b1D .sorted (dP (bfs s cs 325 0 (bs0 t0))) = .ok (.lst ((sortT (bfs s cs 325 0 (bs0 t0)).O).map tD)) := sortDic_t' fun t ht => isA_ne (hB.at_ t ht)
  unfold F_reached
  generalize (sortT (bfs s cs 325 0 (bs0 t0)).O).map tD = SD at *
  generalize dP (bfs s cs 325 0 (bs0 t0)) = DD at *
  generalize skyD s w r b g l = SK at *
  generalize tD t0 = T at *
  generalize cs.map tD = CD at *
  simp [evSs, evS, evE, evEs, evT, evAndT, evOrT, evAnd, evOr, evC, evO, evI, bindF, thenF, nxR, getv, getb, setv, bindP, setAll, ownD, putO, augF, frE, B1.fresh, runD, runM, outM, stF, st0, _root_.M.isNon, LIM, ev_bo, ev_be, ev_bb, ev_rs, ev_rn, ev_add, ev_sub, ev_mulr, ev_mull, ev_mod, ev_fdiv, ev_addl, ev_lt, ev_le, ev_gt, ev_ge, ev_eqi, ev_nei, ev_tb, ev_ti, ev_tn, ev_tl, ev_lenl, ev_lens, ev_lent, ev_abs, ev_int, ev_max2, ev_min2, ev_ai, ev_ixl, ev_ixs, ev_ixt, ev_sql, ev_sqs, ev_sqt, ev_rng, ev_rng2, ev_sl, ev_ss, ir_reached, h1, h2, h3, h4]
theorem reached_cm {X T : M.D} {CD : List M.D} {t0 : List Int} (h0A : isA s t0) (h2 : F_check_commands_turns [skyD s w r b g l, .lst CD] = .err "InvalidCommand" (some ("command", X))) : F_reached [skyD s w r b g l, tD t0, .lst CD] = .err "InvalidCommand" (some ("command", X)) := by
  have h1 := attA_ok (r := r) (b := b) (g := g) (l := l) (w := w) h0A
  unfold F_reached
  generalize skyD s w r b g l = SK at *
  generalize tD t0 = T at *
  simp [evSs, evS, evE, evEs, evT, evAndT, evOrT, evAnd, evOr, evC, evO, evI, bindF, thenF, nxR, getv, getb, setv, bindP, setAll, ownD, putO, augF, frE, B1.fresh, runD, runM, outM, stF, st0, _root_.M.isNon, LIM, ev_bo, ev_be, ev_bb, ev_rs, ev_rn, ev_add, ev_sub, ev_mulr, ev_mull, ev_mod, ev_fdiv, ev_addl, ev_lt, ev_le, ev_gt, ev_ge, ev_eqi, ev_nei, ev_tb, ev_ti, ev_tn, ev_tl, ev_lenl, ev_lens, ev_lent, ev_abs, ev_int, ev_max2, ev_min2, ev_ai, ev_ixl, ev_ixs, ev_ixt, ev_sql, ev_sqs, ev_sqt, ev_rng, ev_rng2, ev_sl, ev_ss, ir_reached, h1, h2]
theorem reached_at {X SK CD : M.D} (h1 : F_check_attitude [SK, X] = .err "InvalidAttitude" (some ("attitude", X))) : F_reached [SK, X, CD] = .err "InvalidAttitude" (some ("attitude", X)) := by
  unfold F_reached
  simp [evSs, evS, evE, evEs, evT, evAndT, evOrT, evAnd, evOr, evC, evO, evI, bindF, thenF, nxR, getv, getb, setv, bindP, setAll, ownD, putO, augF, frE, B1.fresh, runD, runM, outM, stF, st0, _root_.M.isNon, LIM, ev_bo, ev_be, ev_bb, ev_rs, ev_rn, ev_add, ev_sub, ev_mulr, ev_mull, ev_mod, ev_fdiv, ev_addl, ev_lt, ev_le, ev_gt, ev_ge, ev_eqi, ev_nei, ev_tb, ev_ti, ev_tn, ev_tl, ev_lenl, ev_lens, ev_lent, ev_abs, ev_int, ev_max2, ev_min2, ev_ai, ev_ixl, ev_ixs, ev_ixt, ev_sql, ev_sqs, ev_sqt, ev_rng, ev_rng2, ev_sl, ev_ss, ir_reached, h1]
theorem rowto_some {cs : List (List Int)} {t0 t : List Int} {q : List (List Int)} {i : Nat} (h6 : six s) (hs : 4 ≤ s) (hcs : ∀ c ∈ cs, isC3 c) (h0A : isA s t0) {m : Nat} (hB : BI s t0 cs m (bfs s cs 325 0 (bs0 t0))) (ht : (bfs s cs 325 0 (bs0 t0)).O[i]? = some t) (hr : (bfs s cs 325 0 (bs0 t0)).RV[i]? = some q) :
    F_row_to [skyD s w r b g l, tD t0, tD t, .lst (cs.map tD)] = .ok (rvD q) := by
  have hm := List.mem_of_getElem? ht
  have h1 := attA_ok (r := r) (b := b) (g := g) (l := l) (w := w) h0A
  have h1' := attA_ok (r := r) (b := b) (g := g) (l := l) (w := w) (hB.at_ t hm)
  have h2 := cct_ok (r := r) (b := b) (g := g) (l := l) (w := w) hs hcs
  have h3 := ways_ok (r := r) (b := b) (g := g) (l := l) (w := w) h6 hs hcs h0A
  have h4 : cmpD .isin (tD t) (dP (bfs s cs 325 0 (bs0 t0))) = .ok true := by
    have := in_dt (O := (bfs s cs 325 0 (bs0 t0)).O) (VS := (bfs s cs 325 0 (bs0 t0)).PV.map pvD) t
    rw [decide_eq_true hm] at this
    exact this
  have h5 := along_ok hB h6 ht hr
  unfold F_row_to rvD
  generalize dP (bfs s cs 325 0 (bs0 t0)) = DD at *
  generalize skyD s w r b g l = SK at *
  generalize tD t0 = T at *
  generalize tD t = G at *
  generalize cs.map tD = CD at *
  generalize q.map tD = QD at *
  simp [evSs, evS, evE, evEs, evT, evAndT, evOrT, evAnd, evOr, evC, evO, evI, bindF, thenF, nxR, getv, getb, setv, bindP, setAll, ownD, putO, augF, frE, B1.fresh, runD, runM, outM, stF, st0, _root_.M.isNon, LIM, ev_bo, ev_be, ev_bb, ev_rs, ev_rn, ev_add, ev_sub, ev_mulr, ev_mull, ev_mod, ev_fdiv, ev_addl, ev_lt, ev_le, ev_gt, ev_ge, ev_eqi, ev_nei, ev_tb, ev_ti, ev_tn, ev_tl, ev_lenl, ev_lens, ev_lent, ev_abs, ev_int, ev_max2, ev_min2, ev_ai, ev_ixl, ev_ixs, ev_ixt, ev_sql, ev_sqs, ev_sqt, ev_rng, ev_rng2, ev_sl, ev_ss, ir_row_to, h1, h1', h2, h3, h4, h5]
theorem rowto_none {cs : List (List Int)} {t0 t : List Int} (h6 : six s) (hs : 4 ≤ s) (hcs : ∀ c ∈ cs, isC3 c) (h0A : isA s t0) (htA : isA s t) (ht : t ∉ (bfs s cs 325 0 (bs0 t0)).O) :
    F_row_to [skyD s w r b g l, tD t0, tD t, .lst (cs.map tD)] = .ok .non := by
  have h1 := attA_ok (r := r) (b := b) (g := g) (l := l) (w := w) h0A
  have h1' := attA_ok (r := r) (b := b) (g := g) (l := l) (w := w) htA
  have h2 := cct_ok (r := r) (b := b) (g := g) (l := l) (w := w) hs hcs
  have h3 := ways_ok (r := r) (b := b) (g := g) (l := l) (w := w) h6 hs hcs h0A
  have h4 : cmpD .isin (tD t) (dP (bfs s cs 325 0 (bs0 t0))) = .ok false := by
    have := in_dt (O := (bfs s cs 325 0 (bs0 t0)).O) (VS := (bfs s cs 325 0 (bs0 t0)).PV.map pvD) t
    rw [decide_eq_false ht] at this
    exact this
  unfold F_row_to
  generalize dP (bfs s cs 325 0 (bs0 t0)) = DD at *
  generalize skyD s w r b g l = SK at *
  generalize tD t0 = T at *
  generalize tD t = G at *
  generalize cs.map tD = CD at *
  simp [evSs, evS, evE, evEs, evT, evAndT, evOrT, evAnd, evOr, evC, evO, evI, bindF, thenF, nxR, getv, getb, setv, bindP, setAll, ownD, putO, augF, frE, B1.fresh, runD, runM, outM, stF, st0, _root_.M.isNon, LIM, ev_bo, ev_be, ev_bb, ev_rs, ev_rn, ev_add, ev_sub, ev_mulr, ev_mull, ev_mod, ev_fdiv, ev_addl, ev_lt, ev_le, ev_gt, ev_ge, ev_eqi, ev_nei, ev_tb, ev_ti, ev_tn, ev_tl, ev_lenl, ev_lens, ev_lent, ev_abs, ev_int, ev_max2, ev_min2, ev_ai, ev_ixl, ev_ixs, ev_ixt, ev_sql, ev_sqs, ev_sqt, ev_rng, ev_rng2, ev_sl, ev_ss, ir_row_to, h1, h1', h2, h3, h4]
theorem rowto_at {X SK G CD : M.D} (h1 : F_check_attitude [SK, X] = .err "InvalidAttitude" (some ("attitude", X))) : F_row_to [SK, X, G, CD] = .err "InvalidAttitude" (some ("attitude", X)) := by
  unfold F_row_to
  simp [evSs, evS, evE, evEs, evT, evAndT, evOrT, evAnd, evOr, evC, evO, evI, bindF, thenF, nxR, getv, getb, setv, bindP, setAll, ownD, putO, augF, frE, B1.fresh, runD, runM, outM, stF, st0, _root_.M.isNon, LIM, ev_bo, ev_be, ev_bb, ev_rs, ev_rn, ev_add, ev_sub, ev_mulr, ev_mull, ev_mod, ev_fdiv, ev_addl, ev_lt, ev_le, ev_gt, ev_ge, ev_eqi, ev_nei, ev_tb, ev_ti, ev_tn, ev_tl, ev_lenl, ev_lens, ev_lent, ev_abs, ev_int, ev_max2, ev_min2, ev_ai, ev_ixl, ev_ixs, ev_ixt, ev_sql, ev_sqs, ev_sqt, ev_rng, ev_rng2, ev_sl, ev_ss, ir_row_to, h1]
theorem rowto_go {X CD : M.D} {t0 : List Int} (h0A : isA s t0) (h1 : F_check_attitude [skyD s w r b g l, X] = .err "InvalidAttitude" (some ("attitude", X))) : F_row_to [skyD s w r b g l, tD t0, X, CD] = .err "InvalidAttitude" (some ("attitude", X)) := by
  have h0 := attA_ok (r := r) (b := b) (g := g) (l := l) (w := w) h0A
  unfold F_row_to
  generalize skyD s w r b g l = SK at *
  generalize tD t0 = T at *
  simp [evSs, evS, evE, evEs, evT, evAndT, evOrT, evAnd, evOr, evC, evO, evI, bindF, thenF, nxR, getv, getb, setv, bindP, setAll, ownD, putO, augF, frE, B1.fresh, runD, runM, outM, stF, st0, _root_.M.isNon, LIM, ev_bo, ev_be, ev_bb, ev_rs, ev_rn, ev_add, ev_sub, ev_mulr, ev_mull, ev_mod, ev_fdiv, ev_addl, ev_lt, ev_le, ev_gt, ev_ge, ev_eqi, ev_nei, ev_tb, ev_ti, ev_tn, ev_tl, ev_lenl, ev_lens, ev_lent, ev_abs, ev_int, ev_max2, ev_min2, ev_ai, ev_ixl, ev_ixs, ev_ixt, ev_sql, ev_sqs, ev_sqt, ev_rng, ev_rng2, ev_sl, ev_ss, ir_row_to, h0, h1]
theorem rowto_cm {X : M.D} {CD : List M.D} {t0 t : List Int} (h0A : isA s t0) (htA : isA s t) (h2 : F_check_commands_turns [skyD s w r b g l, .lst CD] = .err "InvalidCommand" (some ("command", X))) : F_row_to [skyD s w r b g l, tD t0, tD t, .lst CD] = .err "InvalidCommand" (some ("command", X)) := by
  have h0 := attA_ok (r := r) (b := b) (g := g) (l := l) (w := w) h0A
  have h1 := attA_ok (r := r) (b := b) (g := g) (l := l) (w := w) htA
  unfold F_row_to
  generalize skyD s w r b g l = SK at *
  generalize tD t0 = T at *
  generalize tD t = G at *
  simp [evSs, evS, evE, evEs, evT, evAndT, evOrT, evAnd, evOr, evC, evO, evI, bindF, thenF, nxR, getv, getb, setv, bindP, setAll, ownD, putO, augF, frE, B1.fresh, runD, runM, outM, stF, st0, _root_.M.isNon, LIM, ev_bo, ev_be, ev_bb, ev_rs, ev_rn, ev_add, ev_sub, ev_mulr, ev_mull, ev_mod, ev_fdiv, ev_addl, ev_lt, ev_le, ev_gt, ev_ge, ev_eqi, ev_nei, ev_tb, ev_ti, ev_tn, ev_tl, ev_lenl, ev_lens, ev_lent, ev_abs, ev_int, ev_max2, ev_min2, ev_ai, ev_ixl, ev_ixs, ev_ixt, ev_sql, ev_sqs, ev_sqt, ev_rng, ev_rng2, ev_sl, ev_ss, ir_row_to, h0, h1, h2]
theorem asone_no {X : M.D} {RD : List M.D} (hs : 4 ≤ s) (h : F_check_commands_rows [skyD s w r b g l, .lst RD] = .err "InvalidCommand" (some ("command", X))) : F_as_one [skyD s w r b g l, .lst RD] = .err "InvalidCommand" (some ("command", X)) := by
  have h0 : isA s e3 := ⟨0, 0, 0, rfl, ⟨by omega, by omega⟩, ⟨by omega, by omega⟩, by decide⟩
  have h1 := course_no (X := .non) (r := r) (b := b) (g := g) (l := l) (w := w) h0 h
  have h1 : F_course [skyD s w r b g l, .tup [.int 0, .int 0, .int 0], .lst RD] = .err "InvalidCommand" (some ("command", X)) := h1
  unfold F_as_one
  generalize skyD s w r b g l = SK at *
  simp [evSs, evS, evE, evEs, evT, evAndT, evOrT, evAnd, evOr, evC, evO, evI, bindF, thenF, nxR, getv, getb, setv, bindP, setAll, ownD, putO, augF, frE, B1.fresh, runD, runM, outM, stF, st0, _root_.M.isNon, LIM, ev_bo, ev_be, ev_bb, ev_rs, ev_rn, ev_add, ev_sub, ev_mulr, ev_mull, ev_mod, ev_fdiv, ev_addl, ev_lt, ev_le, ev_gt, ev_ge, ev_eqi, ev_nei, ev_tb, ev_ti, ev_tn, ev_tl, ev_lenl, ev_lens, ev_lent, ev_abs, ev_int, ev_max2, ev_min2, ev_ai, ev_ixl, ev_ixs, ev_ixt, ev_sql, ev_sqs, ev_sqt, ev_rng, ev_rng2, ev_sl, ev_ss, ir_as_one, h1]
/-! ### what is told -/
theorem nx1 : ¬ (("InvalidAttitude" : Str) = "InvalidCommand") := by decide
theorem told_0 {SK X T G : M.D} {CD : M.D} (h : F_as_one [SK, CD] = .err "InvalidCommand" (some ("command", X))) : F__law_told [.int 0, SK, T, G, CD] = .ok (.tup [.str "command", X]) := by
  unfold F__law_told
  simp [evSs, evS, evE, evEs, evT, evAndT, evOrT, evAnd, evOr, evC, evO, evI, bindF, thenF, nxR, getv, getb, setv, bindP, setAll, ownD, putO, augF, frE, B1.fresh, runD, runM, outM, stF, st0, _root_.M.isNon, LIM, ev_bo, ev_be, ev_bb, ev_rs, ev_rn, ev_add, ev_sub, ev_mulr, ev_mull, ev_mod, ev_fdiv, ev_addl, ev_lt, ev_le, ev_gt, ev_ge, ev_eqi, ev_nei, ev_tb, ev_ti, ev_tn, ev_tl, ev_lenl, ev_lens, ev_lent, ev_abs, ev_int, ev_max2, ev_min2, ev_ai, ev_ixl, ev_ixs, ev_ixt, ev_sql, ev_sqs, ev_sqt, ev_rng, ev_rng2, ev_sl, ev_ss, ir__law_told, h, evH, inO, outF, unO, isExc, nx1]
theorem told_1 {SK X T G : M.D} {CD : M.D} (h : F_reached [SK, T, CD] = .err "InvalidCommand" (some ("command", X))) : F__law_told [.int 1, SK, T, G, CD] = .ok (.tup [.str "command", X]) := by
  unfold F__law_told
  simp [evSs, evS, evE, evEs, evT, evAndT, evOrT, evAnd, evOr, evC, evO, evI, bindF, thenF, nxR, getv, getb, setv, bindP, setAll, ownD, putO, augF, frE, B1.fresh, runD, runM, outM, stF, st0, _root_.M.isNon, LIM, ev_bo, ev_be, ev_bb, ev_rs, ev_rn, ev_add, ev_sub, ev_mulr, ev_mull, ev_mod, ev_fdiv, ev_addl, ev_lt, ev_le, ev_gt, ev_ge, ev_eqi, ev_nei, ev_tb, ev_ti, ev_tn, ev_tl, ev_lenl, ev_lens, ev_lent, ev_abs, ev_int, ev_max2, ev_min2, ev_ai, ev_ixl, ev_ixs, ev_ixt, ev_sql, ev_sqs, ev_sqt, ev_rng, ev_rng2, ev_sl, ev_ss, ir__law_told, h, evH, inO, outF, unO, isExc, nx1]
theorem told_2 {SK X T G : M.D} {CD : M.D} (h : F_row_to [SK, T, G, CD] = .err "InvalidCommand" (some ("command", X))) : F__law_told [.int 2, SK, T, G, CD] = .ok (.tup [.str "command", X]) := by
  unfold F__law_told
  simp [evSs, evS, evE, evEs, evT, evAndT, evOrT, evAnd, evOr, evC, evO, evI, bindF, thenF, nxR, getv, getb, setv, bindP, setAll, ownD, putO, augF, frE, B1.fresh, runD, runM, outM, stF, st0, _root_.M.isNon, LIM, ev_bo, ev_be, ev_bb, ev_rs, ev_rn, ev_add, ev_sub, ev_mulr, ev_mull, ev_mod, ev_fdiv, ev_addl, ev_lt, ev_le, ev_gt, ev_ge, ev_eqi, ev_nei, ev_tb, ev_ti, ev_tn, ev_tl, ev_lenl, ev_lens, ev_lent, ev_abs, ev_int, ev_max2, ev_min2, ev_ai, ev_ixl, ev_ixs, ev_ixt, ev_sql, ev_sqs, ev_sqt, ev_rng, ev_rng2, ev_sl, ev_ss, ir__law_told, h, evH, inO, outF, unO, isExc, nx1]
theorem told_1a {SK X T G : M.D} {CD : M.D} (h : F_reached [SK, T, CD] = .err "InvalidAttitude" (some ("attitude", X))) : F__law_told [.int 1, SK, T, G, CD] = .ok (.tup [.str "attitude", X]) := by
  unfold F__law_told
  simp [evSs, evS, evE, evEs, evT, evAndT, evOrT, evAnd, evOr, evC, evO, evI, bindF, thenF, nxR, getv, getb, setv, bindP, setAll, ownD, putO, augF, frE, B1.fresh, runD, runM, outM, stF, st0, _root_.M.isNon, LIM, ev_bo, ev_be, ev_bb, ev_rs, ev_rn, ev_add, ev_sub, ev_mulr, ev_mull, ev_mod, ev_fdiv, ev_addl, ev_lt, ev_le, ev_gt, ev_ge, ev_eqi, ev_nei, ev_tb, ev_ti, ev_tn, ev_tl, ev_lenl, ev_lens, ev_lent, ev_abs, ev_int, ev_max2, ev_min2, ev_ai, ev_ixl, ev_ixs, ev_ixt, ev_sql, ev_sqs, ev_sqt, ev_rng, ev_rng2, ev_sl, ev_ss, ir__law_told, h, evH, inO, outF, unO, isExc, nx1]
theorem told_2a {SK X T G : M.D} {CD : M.D} (h : F_row_to [SK, T, G, CD] = .err "InvalidAttitude" (some ("attitude", X))) : F__law_told [.int 2, SK, T, G, CD] = .ok (.tup [.str "attitude", X]) := by
  unfold F__law_told
  simp [evSs, evS, evE, evEs, evT, evAndT, evOrT, evAnd, evOr, evC, evO, evI, bindF, thenF, nxR, getv, getb, setv, bindP, setAll, ownD, putO, augF, frE, B1.fresh, runD, runM, outM, stF, st0, _root_.M.isNon, LIM, ev_bo, ev_be, ev_bb, ev_rs, ev_rn, ev_add, ev_sub, ev_mulr, ev_mull, ev_mod, ev_fdiv, ev_addl, ev_lt, ev_le, ev_gt, ev_ge, ev_eqi, ev_nei, ev_tb, ev_ti, ev_tn, ev_tl, ev_lenl, ev_lens, ev_lent, ev_abs, ev_int, ev_max2, ev_min2, ev_ai, ev_ixl, ev_ixs, ev_ixt, ev_sql, ev_sqs, ev_sqt, ev_rng, ev_rng2, ev_sl, ev_ss, ir__law_told, h, evH, inO, outF, unO, isExc, nx1]
/-! ### different commands -/
theorem lc_step {st : ES} {N CM : M.D} {AD : List M.D} {at_ J : Int} {B : Bool} (hp : Pl st) (hl : st.length = 6) (h0 : st[0]? = some (.val N)) (h1 : st[1]? = some (.val (.int at_))) (h3 : st[3]? = some (.own (.lst AD))) (e : F__law_command [N, .int (at_ + 1 + J)] = .ok CM) (hin : cmpD .notin CM (.lst AD) = .ok B) (hA : AD.length < 16777216) :
    ∃ st2, evSs 100000 b0__law_commands (st.set 4 (.val (.int J))) = .nx st2 ∧ st2[3]? = some (.own (.lst (if B = true then AD ++ [CM] else AD))) := by
  cases B with
  | true => simp (maxDischargeDepth := 12) [evSs, evS, evE, evEs, evT, evAndT, evOrT, evAnd, evOr, evC, evO, evI, bindF, thenF, nxR, getv, getb, bindP, setAll, ownD, putO, augF, frE, B1.fresh, runD, runM, outM, stF, st0, _root_.M.isNon, LIM, ev_bo, ev_be, ev_bb, ev_rs, ev_rn, ev_add, ev_sub, ev_mulr, ev_mull, ev_mod, ev_fdiv, ev_addl, ev_lt, ev_le, ev_gt, ev_ge, ev_eqi, ev_nei, ev_tb, ev_ti, ev_tn, ev_tl, ev_lenl, ev_lens, ev_lent, ev_abs, ev_int, ev_max2, ev_min2, ev_ai, ev_ixl, ev_ixs, ev_ixt, ev_sql, ev_sqs, ev_sqt, ev_rng, ev_rng2, ev_sl, ev_ss, setv_pl, pl_val, pl_own, pl_un, pl_nil, pl_cv, pl_co, pl_cu, List.getElem?_set, List.length_set, cget0, cget1, -getElem?_pos, b0__law_commands, hp, hl, h0, h1, h3, e, hin, hA]
  | false => simp (maxDischargeDepth := 12) [evSs, evS, evE, evEs, evT, evAndT, evOrT, evAnd, evOr, evC, evO, evI, bindF, thenF, nxR, getv, getb, bindP, setAll, ownD, putO, augF, frE, B1.fresh, runD, runM, outM, stF, st0, _root_.M.isNon, LIM, ev_bo, ev_be, ev_bb, ev_rs, ev_rn, ev_add, ev_sub, ev_mulr, ev_mull, ev_mod, ev_fdiv, ev_addl, ev_lt, ev_le, ev_gt, ev_ge, ev_eqi, ev_nei, ev_tb, ev_ti, ev_tn, ev_tl, ev_lenl, ev_lens, ev_lent, ev_abs, ev_int, ev_max2, ev_min2, ev_ai, ev_ixl, ev_ixs, ev_ixt, ev_sql, ev_sqs, ev_sqt, ev_rng, ev_rng2, ev_sl, ev_ss, setv_pl, pl_val, pl_own, pl_un, pl_nil, pl_cv, pl_co, pl_cu, List.getElem?_set, List.length_set, cget0, cget1, -getElem?_pos, b0__law_commands, hp, hl, h0, h1, h3, e, hin]
theorem lcs_ok {m : Nat} {xs : List Int} (hd : Drawn1 m xs) (hm : 26 ≤ m) : ∃ cs : List (List Int), F__law_commands [.lst (xs.map M.D.int), .int 22, .int 3] = .ok (.lst (cs.map tD)) ∧ (∀ c ∈ cs, isC3 c) ∧ cs.length ≤ 3 := by
  obtain ⟨n22, a22, b22, c22⟩ := drawn_at hd (i := 22) (by decide) (by omega)
  have hrg : rangeD (.int (1 + n22 % 3)) = .ok (intsTo 0 (1 + n22 % 3).toNat) := ev_rng (by omega) (by omega)
  have hN : (1 + n22 % 3).toNat ≤ 3 := by omega
  have e0 : ∃ st', forRun (bindP (.n 4)) (fun s => evSs 100000 b0__law_commands s) (intsTo 0 (1 + n22 % 3).toNat) [.val (.lst (xs.map M.D.int)), .val (.int 22), .val (.int 3), .own (.lst []), .un, .un] = .nx st' ∧ Fm [3, 4, 5] [.val (.lst (xs.map M.D.int)), .val (.int 22), .val (.int 3), .own (.lst []), .un, .un] st' ∧ ∃ cs : List (List Int), st'[3]? = some (.own (.lst (cs.map tD))) ∧ (∀ c ∈ cs, isC3 c) ∧ cs.length ≤ (1 + n22 % 3).toNat := by
    rw [show intsTo 0 (1 + n22 % 3).toNat = (List.range (1 + n22 % 3).toNat).map fun i : Nat => M.D.int (0 + (i : Int)) from rfl]
    generalize (1 + n22 % 3).toNat = NN at *
    obtain ⟨st', e, hF, cs, g3, gc, gl⟩ := for_rel (bind := bindP (.n 4)) (body := fun s => evSs 100000 b0__law_commands s) (fun i : Nat => M.D.int (0 + (i : Int))) (fun j (_ : Unit) z => Fm [3, 4, 5] [.val (.lst (xs.map M.D.int)), .val (.int 22), .val (.int 3), .own (.lst []), .un, .un] z ∧ ∃ cs : List (List Int), z[3]? = some (.own (.lst (cs.map tD))) ∧ (∀ c ∈ cs, isC3 c) ∧ cs.length ≤ j) (fun _ _ => ()) (List.range NN) 0 () [.val (.lst (xs.map M.D.int)), .val (.int 22), .val (.int 3), .own (.lst []), .un, .un] ⟨Fm.refl _ _, [], rfl, fun _ h => (by cases h), Nat.le_refl _⟩ (fun j i hi _ z hR => by
      obtain ⟨hF, cs, g3, gc, gl⟩ := hR
      obtain ⟨hj1, hj2⟩ := List.getElem?_eq_some_iff.mp hi
      rw [List.length_range] at hj1
      rw [List.getElem_range] at hj2
      subst hj2
      obtain ⟨u, v, k, hc, ec⟩ := lcmd_ok hd (at_ := 22 + 1 + (0 + (j : Int))) (by omega) (by omega)
      obtain ⟨z2, e, g⟩ := lc_step (J := 0 + (j : Int)) (hF.pl rfl) hF.len (hF.same 0 (by decide)) (hF.same 1 (by decide)) g3 ec (notin_t [u, v, k] cs) (by rw [List.length_map]; omega)
      refine ⟨_, z2, setv_pl (hF.pl rfl) (by rw [hF.len]; exact (by decide : 4 < 6)), e, (hF.trans (Fm.set (by decide) rfl)).trans (Fm.of_nx e (by decide)), if (!decide ([u, v, k] ∈ cs)) = true then cs ++ [[u, v, k]] else cs, ?_, ?_, ?_⟩
      · rw [g]
        by_cases hm : [u, v, k] ∈ cs
        · rw [decide_eq_true hm]; rfl
        · rw [decide_eq_false hm]
          show some (Sl.own (.lst (cs.map tD ++ [aD u v k]))) = some (Sl.own (.lst ((cs ++ [[u, v, k]]).map tD)))
          rw [List.map_append]; rfl
      · intro c hcm
        split at hcm
        · rcases List.mem_append.mp hcm with hcm | hcm
          · exact gc c hcm
          · rw [List.mem_singleton.mp hcm]; exact ⟨u, v, k, rfl, hc⟩
        · exact gc c hcm
      · split
        · rw [List.length_append]; simp only [List.length_cons, List.length_nil]; omega
        · omega)
    rw [List.length_range, Nat.zero_add] at gl
    exact ⟨st', e, hF, cs, g3, gc, gl⟩
  obtain ⟨st', e, hF, cs, g3, gc, gl⟩ := e0
  refine ⟨cs, ?_, gc, by omega⟩
  have hl := hF.len
  have hl6 : st'.length = 6 := hl
  clear hl hF
  unfold F__law_commands
  generalize (1 + n22 % 3).toNat = NN at *
  generalize cs.map tD = CD at *
  generalize intsTo 0 NN = IL at *
  generalize xs.map M.D.int = XD at *
  simp (maxDischargeDepth := 12) [evSs, evS, evE, evEs, evT, evAndT, evOrT, evAnd, evOr, evC, evO, evI, bindF, thenF, nxR, getv, getb, bindP, setAll, ownD, putO, augF, frE, B1.fresh, runD, runM, outM, stF, st0, _root_.M.isNon, LIM, ev_bo, ev_be, ev_bb, ev_rs, ev_rn, ev_add, ev_sub, ev_mulr, ev_mull, ev_mod, ev_fdiv, ev_addl, ev_lt, ev_le, ev_gt, ev_ge, ev_eqi, ev_nei, ev_tb, ev_ti, ev_tn, ev_tl, ev_lenl, ev_lens, ev_lent, ev_abs, ev_int, ev_max2, ev_min2, ev_ai, ev_ixl, ev_ixs, ev_ixt, ev_sql, ev_sqs, ev_sqt, ev_rng, ev_rng2, ev_sl, ev_ss, setv_pl, pl_val, pl_own, pl_un, pl_nil, pl_cv, pl_co, pl_cu, List.getElem?_set, List.length_set, cget0, cget1, -getElem?_pos, ir__law_commands, a22, hrg, e, g3, hl6, -ev_rng]
end
end K47
set_option Elab.async false
set_option linter.all false
set_option maxRecDepth 100000
set_option maxHeartbeats 4000000
namespace K47
open PySem L2 M
theorem asgt_nx {fu n : Nat} {l : List (Nat × Sl)} {st : ES} {i j : Nat} {e : IE} {a b : M.D} (h : Sat n l st) (hE : evE e st = .ok (.tup [a, b])) (hi : i < n) (hj : j < n) : evS fu (.asg (.t [i, j]) e) st = .nx ((st.set i (.val a)).set j (.val b)) := by
  rw [evS, hE]
  show nxR ((setv st i (.val a)).bind fun s => (setv s j (.val b)).bind fun s => .ok s) = _
  rw [setv_pl h.pl (by rw [h.len]; exact hi), ev_bo, setv_pl (pl_val h.pl) (by rw [set_len, h.len]; exact hj), ev_bo]
  rfl
theorem v_f {a : IE} {st : ES} (h : evE a st = .ok (.bl false)) : evT (.v a) st = .ok false := by rw [evT, h]; rfl
theorem or2_f {a b : IQ} {st : ES} (h1 : evT a st = .ok false) (h2 : evT b st = .ok false) : evT (.or (.cons a (.cons b .nil))) st = .ok false := by
  rw [evT, evOrT, h1, ev_bo, if_neg Bool.false_ne_true, evOrT, h2, ev_bo, if_neg Bool.false_ne_true, evOrT]
theorem cmp_f {a b : IE} {st : ES} {x y : M.D} (h1 : evE a st = .ok x) (h2 : evE b st = .ok y) (h : cmpD .ne x y = .ok false) : evE (.cmp .ne a b) st = .ok (.bl false) := by
  rw [evE, h1, ev_bo, h2, ev_bo, h]; rfl
theorem good_w {x : Str} {u v k : Int} (h : PyData.canLay0 (.str x) = true) : good 60 (.tup [.str x, aD u v k]) = true := by
  show (PyData.canLay0 (.str x) && (goods 58 [M.D.int u, .int v, .int k] && true)) = true
  rw [h]
  rfl
theorem wrong_at {s i : Int} (hs : 4 ≤ s) (h : 0 ≤ i ∧ i < 5) : ∃ u v k, ¬ ((0 ≤ k ∧ k ≤ 3) ∧ (-s < u ∧ u < s) ∧ -s < v ∧ v < s) ∧ atI [M.D.tup [.int s, .int 0, .int 0], .tup [.int 0, .int (0 - s), .int 1], .tup [.int 0, .int 0, .int 4], .tup [.int 0, .int s, .int 1], .tup [.int 0, .int 1, .int (0 - 1)]] i = some (aD u v k) := by
  have : i = 0 ∨ i = 1 ∨ i = 2 ∨ i = 3 ∨ i = 4 := by omega
  rcases this with rfl | rfl | rfl | rfl | rfl
  · exact ⟨s, 0, 0, by omega, rfl⟩
  · exact ⟨0, 0 - s, 1, by omega, rfl⟩
  · exact ⟨0, 0, 4, by omega, rfl⟩
  · exact ⟨0, s, 1, by omega, rfl⟩
  · exact ⟨0, 1, 0 - 1, by omega, rfl⟩
theorem good_rv (q : List (List Int)) : good 60 (rvD q) = true := goods_t 58 q
theorem pure_law : ∀ ns : List Int, ns.length ≤ 63 → F_law [.scr (ns.map M.D.int)] = .ok (.bl true) := by
  intro ns hn
  obtain ⟨xs, eN, hd⟩ := num_ok (m := 60) hn (by decide) (by decide)
  have hd : Drawn1 60 xs := hd
  rw [← numbers_eq] at eN
  generalize hA : M.D.scr (ns.map M.D.int) = A0 at *
  obtain ⟨s, w, r, b, g, l, h6, hw, hc, hpt⟩ := sky_drawn hd (by decide)
  have hs : 4 ≤ s := by rcases h6 with rfl | rfl | rfl | rfl | rfl | rfl <;> decide
  have hs0 : 0 < s := by omega
  have hmade := lmade_ok h6 hw (by decide) hc
  obtain ⟨n26, a26, b26, c26⟩ := drawn_at hd (i := 26) (by decide) (by decide)
  obtain ⟨n36, a36, b36, c36⟩ := drawn_at hd (i := 36) (by decide) (by decide)
  obtain ⟨n37, a37, b37, c37⟩ := drawn_at hd (i := 37) (by decide) (by decide)
  obtain ⟨cs, ecs, hcs, hcl⟩ := lcs_ok hd (by decide)
  have hct : ∀ c ∈ cs, tri3 c := fun c hc => isC_tri (hcs c hc)
  obtain ⟨p1, p2, p3, hP, eP⟩ := latt_ok (W := .lst (w.map tD)) (C := .tup [.int r, .int b, .int g, .int l]) hs0 hd (at_ := 20) (by decide) (by decide)
  obtain ⟨q1, q2, q3, hQ, eQ⟩ := latt_ok (W := .lst (w.map tD)) (C := .tup [.int r, .int b, .int g, .int l]) hs0 hd (at_ := 21) (by decide) (by decide)
  have hPA : isA s [p1, p2, p3] := ⟨_, _, _, rfl, hP⟩
  have hQA : isA s [q1, q2, q3] := ⟨_, _, _, rfl, hQ⟩
  have eP : F__law_attitude [pD s (.lst (w.map tD)) (.tup [.int r, .int b, .int g, .int l]), .lst (xs.map M.D.int), .int 20] = .ok (tD [p1, p2, p3]) := eP
  have eQ : F__law_attitude [pD s (.lst (w.map tD)) (.tup [.int r, .int b, .int g, .int l]), .lst (xs.map M.D.int), .int 21] = .ok (tD [q1, q2, q3]) := eQ
  generalize [p1, p2, p3] = at0_ at *
  generalize [q1, q2, q3] = go0 at *
  obtain ⟨m1, hB1, hm1⟩ := bfs_BI h6 hs0 hct 325 0 (bs0 at0_) (BI0 hPA) (by decide)
  obtain ⟨m2, hB2, hm2⟩ := bfs_BI h6 hs0 hct 325 0 (bs0 go0) (BI0 hQA) (by decide)
  have hle1 := reach_le hs0 hct hPA hQA hB1 hm1 hB2 hm2
  have hle2 := reach_le hs0 hct hQA hPA hB2 hm2 hB1 hm1
  have hR1 := reached_ok (r := r) (b := b) (g := g) (l := l) (w := sortT w) h6 hs hcs hPA hB1
  have hR2 := reached_ok (r := r) (b := b) (g := g) (l := l) (w := sortT w) h6 hs hcs hQA hB2
  have hRo := lrows_ok (W := .lst (w.map tD)) (C := .tup [.int r, .int b, .int g, .int l]) h6 hs hcs hPA
  have hgo : ∃ V, F_row_to [skyD s (sortT w) r b g l, tD at0_, tD go0, .lst (cs.map tD)] = .ok V ∧ (dlook ((bfs s cs 325 0 (bs0 at0_)).O.map tD) ((bfs s cs 325 0 (bs0 at0_)).RV.map rvD) (tD go0)).getD .non = V ∧ good 60 V = true := by
    by_cases hg : go0 ∈ (bfs s cs 325 0 (bs0 at0_)).O
    · obtain ⟨i, hi, e⟩ := List.mem_iff_getElem.mp hg
      have e1 := List.getElem?_eq_getElem hi
      rw [e] at e1
      have hi2 : i < (bfs s cs 325 0 (bs0 at0_)).RV.length := by rw [hB1.l2]; exact hi
      have e2 := List.getElem?_eq_getElem hi2
      refine ⟨_, rowto_some h6 hs hcs hPA hB1 e1 e2, ?_, good_rv _⟩
      rw [look_dt hB1.nd e1 (by rw [List.getElem?_map, e2]; rfl)]
      rfl
    · refine ⟨.non, rowto_none h6 hs hcs hPA hQA hg, ?_, rfl⟩
      rw [look_no hg]
      rfl
  obtain ⟨V, eV1, eV2, gV⟩ := hgo
  have hO0 := hB1.hd
  have hRV0 : (bfs s cs 325 0 (bs0 at0_)).RV[0]? = some [] := by
    rcases hB1.par 0 (List.getElem?_eq_some_iff.mp hO0).1 with ⟨_, _, h⟩ | ⟨j, _, _, _, h, _⟩
    · exact h
    · omega
  have eS1 := rowto_some (r := r) (b := b) (g := g) (l := l) (w := sortT w) h6 hs hcs hPA hB1 hO0 hRV0
  have hpos : 0 < (bfs s cs 325 0 (bs0 at0_)).O.length := (List.getElem?_eq_some_iff.mp hO0).1
  have hO324 := hB1.len h6
  -- a drawn one that is reached
  obtain ⟨far, hfm, efar⟩ : ∃ far, far ∈ (bfs s cs 325 0 (bs0 at0_)).O ∧ atI ((sortT (bfs s cs 325 0 (bs0 at0_)).O).map tD) (n36 % ((bfs s cs 325 0 (bs0 at0_)).O.length : Int)) = some (tD far) := by
    have h0 : 0 ≤ n36 % ((bfs s cs 325 0 (bs0 at0_)).O.length : Int) := Int.emod_nonneg _ (by omega)
    have h1 : n36 % ((bfs s cs 325 0 (bs0 at0_)).O.length : Int) < ((bfs s cs 325 0 (bs0 at0_)).O.length : Int) := Int.emod_lt_of_pos _ (by omega)
    have hl : (sortT (bfs s cs 325 0 (bs0 at0_)).O).length = (bfs s cs 325 0 (bs0 at0_)).O.length := (sortT_perm _).length_eq
    have hj : (n36 % ((bfs s cs 325 0 (bs0 at0_)).O.length : Int)).toNat < (sortT (bfs s cs 325 0 (bs0 at0_)).O).length := by omega
    exact ⟨_, (sortT_perm _).mem_iff.mp (List.getElem_mem hj), atI_nat h0 (by rw [List.getElem?_map, List.getElem?_eq_getElem hj]; rfl)⟩
  obtain ⟨fi, hfi, hfe⟩ := List.mem_iff_getElem.mp hfm
  have ef1 := List.getElem?_eq_getElem hfi
  rw [hfe] at ef1
  have hfi2 : fi < (bfs s cs 325 0 (bs0 at0_)).RV.length := by rw [hB1.l2]; exact hfi
  have ef2 := List.getElem?_eq_getElem hfi2
  have eF1 := rowto_some (r := r) (b := b) (g := g) (l := l) (w := sortT w) h6 hs hcs hPA hB1 ef1 ef2
  have eF2 : idxD (dR (bfs s cs 325 0 (bs0 at0_))) (tD far) = .ok (rvD (bfs s cs 325 0 (bs0 at0_)).RV[fi]) := idx_dt hB1.nd ef1 (by rw [List.getElem?_map, ef2]; rfl)
  have gF := good_rv (bfs s cs 325 0 (bs0 at0_)).RV[fi]
  generalize rvD (bfs s cs 325 0 (bs0 at0_)).RV[fi] = FV at *
  have hDl : b1D .len (dR (bfs s cs 325 0 (bs0 at0_))) = .ok (.int ((bfs s cs 325 0 (bs0 at0_)).O.length : Int)) := by
    show R.ok (M.D.int (((bfs s cs 325 0 (bs0 at0_)).O.map tD).length : Int)) = _
    rw [List.length_map]
  have hDs : b1D .sorted (dR (bfs s cs 325 0 (bs0 at0_))) = .ok (.lst ((sortT (bfs s cs 325 0 (bs0 at0_)).O).map tD)) := sortDic_t' fun t ht => isA_ne (hB1.at_ t ht)
  have hGl : b1D .len (.lst ((sortT (bfs s cs 325 0 (bs0 go0)).O).map tD)) = .ok (.int ((bfs s cs 325 0 (bs0 at0_)).O.length : Int)) := by
    rw [ev_lenl, List.length_map, (sortT_perm _).length_eq, Nat.le_antisymm hle2 hle1]
  have gSt : cmpD .ne (.lst ((sortT (bfs s cs 325 0 (bs0 at0_)).O).map tD)) (.lst ((sortT (bfs s cs 325 0 (bs0 at0_)).O).map tD)) = .ok false := ne_same (goods_t 58 _)
  have hdR : ∃ KS VS, dR (bfs s cs 325 0 (bs0 at0_)) = .dic true KS VS ∧ (dlook KS VS (tD go0)).getD .non = V := ⟨_, _, rfl, eV2⟩
  have hcmOK := attA_ok (r := r) (b := b) (g := g) (l := l) (w := sortT w) hPA
  generalize hln : ((bfs s cs 325 0 (bs0 at0_)).O.length : Int) = ln at *
  have hlnp : 0 < ln := by omega
  generalize (sortT (bfs s cs 325 0 (bs0 at0_)).O).map tD = SO at *
  generalize (sortT (bfs s cs 325 0 (bs0 go0)).O).map tD = SG at *
  generalize dR (bfs s cs 325 0 (bs0 at0_)) = DRV at *
  obtain ⟨KS, VS, eDR, eV3⟩ := hdR
  clear hB1 hB2 hm1 hm2 hle1 hle2 eV2 hO0 hRV0 hfm ef1 ef2 hfe hfi hfi2 hO324 hpos
  -- the state
  generalize hS0 : ([.val A0, .un, .un, .un, .un, .un, .un, .un, .un, .un, .un, .un, .un, .un, .un, .un, .un, .un] : ES) = S0
  have T0 : Sat 18 [(0, .val A0)] S0 := by subst hS0; exact ⟨rfl, rfl, rfl, trivial⟩
  have x0 : evE ((.call "_law_numbers" F__law_numbers (.cons (.var 0) (.cons (.int 60) .nil)))) S0 = .ok (.lst (xs.map M.D.int)) := by
    obtain ⟨hp, hl, k0, _⟩ := T0
    generalize xs.map M.D.int = XD at *
    clear hS0
    simp (maxDischargeDepth := 12) [evSs, evS, evE, evEs, evT, evAndT, evOrT, evAnd, evOr, evC, evO, evI, bindF, thenF, nxR, getv, getb, bindP, setAll, ownD, putO, augF, frE, B1.fresh, runD, runM, outM, stF, st0, _root_.M.isNon, LIM, ev_bo, ev_be, ev_bb, ev_rs, ev_rn, ev_add, ev_sub, ev_mulr, ev_mull, ev_mod, ev_fdiv, ev_addl, ev_lt, ev_le, ev_gt, ev_ge, ev_eqi, ev_nei, ev_tb, ev_ti, ev_tn, ev_tl, ev_lenl, ev_lens, ev_lent, ev_abs, ev_int, ev_max2, ev_min2, ev_ai, ev_ixl, ev_ixs, ev_ixt, ev_sql, ev_sqs, ev_sqt, ev_rng, ev_rng2, ev_sl, ev_ss, setv_pl, pl_val, pl_own, pl_un, pl_nil, pl_cv, pl_co, pl_cu, List.getElem?_set, List.length_set, cget0, cget1, -getElem?_pos, hp, hl, k0, eN]
  have T1 := T0.set (i := 1) (d := .lst (xs.map M.D.int)) (by decide)
  have y0 := asg_nx (fu := 100000) T0 x0 (i := 1) (by decide)
  generalize S0.set 1 (.val (.lst (xs.map M.D.int))) = S1 at *
  have x1 : evE ((.call "_law_sky" F__law_sky (.cons (.var 1) (.cons (.int 0) (.cons (.lst (.cons (.tup (.cons (.int 4) (.cons (.int 1) (.cons (.int 0) .nil)))) (.cons (.tup (.cons (.int 5) (.cons (.int 1) (.cons (.int 1) .nil)))) (.cons (.tup (.cons (.int 6) (.cons (.int 2) (.cons (.int 0) .nil)))) (.cons (.tup (.cons (.int 7) (.cons (.int 1) (.cons (.int 0) .nil)))) .nil))))) (.cons (.int 3) .nil)))))) S1 = .ok (pD s (.lst (w.map tD)) (.tup [.int r, .int b, .int g, .int l])) := by
    obtain ⟨hp, hl, k1, _⟩ := T1
    have hcam : M.D.lst camL = .lst [.tup [.int 4, .int 1, .int 0], .tup [.int 5, .int 1, .int 1], .tup [.int 6, .int 2, .int 0], .tup [.int 7, .int 1, .int 0]] := rfl
    rw [hcam] at hpt
    generalize pD s (.lst (w.map tD)) (.tup [.int r, .int b, .int g, .int l]) = PP at *
    generalize xs.map M.D.int = XD at *
    clear hS0 y0
    simp (maxDischargeDepth := 12) [evSs, evS, evE, evEs, evT, evAndT, evOrT, evAnd, evOr, evC, evO, evI, bindF, thenF, nxR, getv, getb, bindP, setAll, ownD, putO, augF, frE, B1.fresh, runD, runM, outM, stF, st0, _root_.M.isNon, LIM, ev_bo, ev_be, ev_bb, ev_rs, ev_rn, ev_add, ev_sub, ev_mulr, ev_mull, ev_mod, ev_fdiv, ev_addl, ev_lt, ev_le, ev_gt, ev_ge, ev_eqi, ev_nei, ev_tb, ev_ti, ev_tn, ev_tl, ev_lenl, ev_lens, ev_lent, ev_abs, ev_int, ev_max2, ev_min2, ev_ai, ev_ixl, ev_ixs, ev_ixt, ev_sql, ev_sqs, ev_sqt, ev_rng, ev_rng2, ev_sl, ev_ss, setv_pl, pl_val, pl_own, pl_un, pl_nil, pl_cv, pl_co, pl_cu, List.getElem?_set, List.length_set, cget0, cget1, -getElem?_pos, hp, hl, k1, hpt]
  have T2 := T1.set (i := 2) (d := pD s (.lst (w.map tD)) (.tup [.int r, .int b, .int g, .int l])) (by decide)
  have y1 := asg_nx (fu := 100000) T1 x1 (i := 2) (by decide)
  generalize S1.set 2 (.val (pD s (.lst (w.map tD)) (.tup [.int r, .int b, .int g, .int l]))) = S2 at *
  have x2 : evE ((.call "_law_made" F__law_made (.cons (.var 2) .nil))) S2 = .ok (skyD s (sortT w) r b g l) := by
    obtain ⟨hp, hl, k2, k1, _⟩ := T2
    generalize pD s (.lst (w.map tD)) (.tup [.int r, .int b, .int g, .int l]) = PP at *
    generalize skyD s (sortT w) r b g l = SK at *
    clear hS0 y0 y1
    simp (maxDischargeDepth := 12) [evSs, evS, evE, evEs, evT, evAndT, evOrT, evAnd, evOr, evC, evO, evI, bindF, thenF, nxR, getv, getb, bindP, setAll, ownD, putO, augF, frE, B1.fresh, runD, runM, outM, stF, st0, _root_.M.isNon, LIM, ev_bo, ev_be, ev_bb, ev_rs, ev_rn, ev_add, ev_sub, ev_mulr, ev_mull, ev_mod, ev_fdiv, ev_addl, ev_lt, ev_le, ev_gt, ev_ge, ev_eqi, ev_nei, ev_tb, ev_ti, ev_tn, ev_tl, ev_lenl, ev_lens, ev_lent, ev_abs, ev_int, ev_max2, ev_min2, ev_ai, ev_ixl, ev_ixs, ev_ixt, ev_sql, ev_sqs, ev_sqt, ev_rng, ev_rng2, ev_sl, ev_ss, setv_pl, pl_val, pl_own, pl_un, pl_nil, pl_cv, pl_co, pl_cu, List.getElem?_set, List.length_set, cget0, cget1, -getElem?_pos, hp, hl, k2, hmade]
  have T3 := T2.set (i := 3) (d := skyD s (sortT w) r b g l) (by decide)
  have y2 := asg_nx (fu := 100000) T2 x2 (i := 3) (by decide)
  generalize S2.set 3 (.val (skyD s (sortT w) r b g l)) = S3 at *
  have x3 : evE ((.tup (.cons (.call "_law_attitude" F__law_attitude (.cons (.var 2) (.cons (.var 1) (.cons (.int 20) .nil)))) (.cons (.call "_law_attitude" F__law_attitude (.cons (.var 2) (.cons (.var 1) (.cons (.int 21) .nil)))) .nil)))) S3 = .ok (.tup [tD at0_, tD go0]) := by
    obtain ⟨hp, hl, k3, k2, k1, _⟩ := T3
    generalize pD s (.lst (w.map tD)) (.tup [.int r, .int b, .int g, .int l]) = PP at *
    generalize tD at0_ = TA at *
    generalize tD go0 = TG at *
    generalize xs.map M.D.int = XD at *
    clear hS0 y0 y1 y2 x0 x1 x2
    simp (maxDischargeDepth := 12) [evSs, evS, evE, evEs, evT, evAndT, evOrT, evAnd, evOr, evC, evO, evI, bindF, thenF, nxR, getv, getb, bindP, setAll, ownD, putO, augF, frE, B1.fresh, runD, runM, outM, stF, st0, _root_.M.isNon, LIM, ev_bo, ev_be, ev_bb, ev_rs, ev_rn, ev_add, ev_sub, ev_mulr, ev_mull, ev_mod, ev_fdiv, ev_addl, ev_lt, ev_le, ev_gt, ev_ge, ev_eqi, ev_nei, ev_tb, ev_ti, ev_tn, ev_tl, ev_lenl, ev_lens, ev_lent, ev_abs, ev_int, ev_max2, ev_min2, ev_ai, ev_ixl, ev_ixs, ev_ixt, ev_sql, ev_sqs, ev_sqt, ev_rng, ev_rng2, ev_sl, ev_ss, setv_pl, pl_val, pl_own, pl_un, pl_nil, pl_cv, pl_co, pl_cu, List.getElem?_set, List.length_set, cget0, cget1, -getElem?_pos, hp, hl, k1, k2, eP, eQ]
  have y3 := asgt_nx (fu := 100000) T3 x3 (i := 13) (j := 14) (by decide) (by decide)
  have T4 := (T3.set (i := 13) (d := tD at0_) (by decide)).set (i := 14) (d := tD go0) (by decide)
  generalize (S3.set 13 (.val (tD at0_))).set 14 (.val (tD go0)) = S4 at *
  have x4 : evE ((.call "_law_commands" F__law_commands (.cons (.var 1) (.cons (.int 22) (.cons (.int 3) .nil))))) S4 = .ok (.lst (cs.map tD)) := by
    obtain ⟨hp, hl, k14, k13, k3, k2, k1, _⟩ := T4
    generalize cs.map tD = CD at *
    generalize xs.map M.D.int = XD at *
    clear hS0 y0 y1 y2 y3 x0 x1 x2 x3
    simp (maxDischargeDepth := 12) [evSs, evS, evE, evEs, evT, evAndT, evOrT, evAnd, evOr, evC, evO, evI, bindF, thenF, nxR, getv, getb, bindP, setAll, ownD, putO, augF, frE, B1.fresh, runD, runM, outM, stF, st0, _root_.M.isNon, LIM, ev_bo, ev_be, ev_bb, ev_rs, ev_rn, ev_add, ev_sub, ev_mulr, ev_mull, ev_mod, ev_fdiv, ev_addl, ev_lt, ev_le, ev_gt, ev_ge, ev_eqi, ev_nei, ev_tb, ev_ti, ev_tn, ev_tl, ev_lenl, ev_lens, ev_lent, ev_abs, ev_int, ev_max2, ev_min2, ev_ai, ev_ixl, ev_ixs, ev_ixt, ev_sql, ev_sqs, ev_sqt, ev_rng, ev_rng2, ev_sl, ev_ss, setv_pl, pl_val, pl_own, pl_un, pl_nil, pl_cv, pl_co, pl_cu, List.getElem?_set, List.length_set, cget0, cget1, -getElem?_pos, hp, hl, k1, ecs]
  have T5 := T4.set (i := 4) (d := .lst (cs.map tD)) (by decide)
  have y4 := asg_nx (fu := 100000) T4 x4 (i := 4) (by decide)
  generalize S4.set 4 (.val (.lst (cs.map tD))) = S5 at *
  obtain ⟨row, erow, hrowl, hrow⟩ := lcRun_ex (b := fun x => bindP (.n 15) x) (st0 := wipeS S5 [15]) (t := fun s => evC .nil s) (e := fun s => evE e0_law s) (enc := tD) (Q := isC3) (intsTo 0 (n26 % 8).toNat) (fun x hx => by
    obtain ⟨j, hj⟩ := List.getElem?_of_mem hx
    obtain ⟨hj1, rfl⟩ := intsTo_get hj
    obtain ⟨u, v, k, ha, ea⟩ := lcmd_ok hd (at_ := 27 + (0 + (j : Int))) (by omega) (by omega)
    obtain ⟨hp, hl, k4, k14, k13, k3, k2, k1, _⟩ := T5
    refine ⟨_, [u, v, k], setv_pl (pl_un hp) (by show 15 < (S5.set 15 Sl.un).length; rw [set_len, hl]; decide), rfl, ?_, u, v, k, rfl, ha⟩
    have ea : F__law_command [.lst (xs.map M.D.int), .int (27 + (0 + (j : Int)))] = .ok (tD [u, v, k]) := ea
    generalize xs.map M.D.int = XD at *
    generalize (0 : Int) + (j : Int) = J at *
    generalize tD [u, v, k] = T at *
    clear hS0 y0 y1 y2 y3 y4 x0 x1 x2 x3 x4
    simp (maxDischargeDepth := 12) [evSs, evS, evE, evEs, evT, evAndT, evOrT, evAnd, evOr, evC, evO, evI, bindF, thenF, nxR, getv, getb, bindP, setAll, ownD, putO, augF, frE, B1.fresh, runD, runM, outM, stF, st0, _root_.M.isNon, LIM, ev_bo, ev_be, ev_bb, ev_rs, ev_rn, ev_add, ev_sub, ev_mulr, ev_mull, ev_mod, ev_fdiv, ev_addl, ev_lt, ev_le, ev_gt, ev_ge, ev_eqi, ev_nei, ev_tb, ev_ti, ev_tn, ev_tl, ev_lenl, ev_lens, ev_lent, ev_abs, ev_int, ev_max2, ev_min2, ev_ai, ev_ixl, ev_ixs, ev_ixt, ev_sql, ev_sqs, ev_sqt, ev_rng, ev_rng2, ev_sl, ev_ss, setv_pl, pl_val, pl_own, pl_un, pl_nil, pl_cv, pl_co, pl_cu, List.getElem?_set, List.length_set, cget0, cget1, -getElem?_pos, wipeS, e0_law, hp, hl, k1, ea])
  have hrowl : row.length ≤ 7 := by rw [hrowl, intsTo_len]; omega
  have hrt : ∀ c ∈ row, tri3 c := fun c hc => isC_tri (hrow c hc)
  have x5 : evE ((.lc (.n 15) [("_law_k", 15)] (.r1 (.bin .mod (.b1 .int (.idx (.var 1) (.int 26))) (.int 8))) .nil e0_law)) S5 = .ok (.lst (row.map tD)) := by
    refine lc_ok (l := intsTo 0 (n26 % 8).toNat) (evI_r1 (n := n26 % 8) ?_ (ev_rng (by omega) (by omega))) (by rw [intsTo_len]; show _ ≤ 16777216; omega) erow
    obtain ⟨hp, hl, k4, k14, k13, k3, k2, k1, _⟩ := T5
    generalize xs.map M.D.int = XD at *
    clear hS0 y0 y1 y2 y3 y4 x0 x1 x2 x3 x4 erow
    simp (maxDischargeDepth := 12) [evSs, evS, evE, evEs, evT, evAndT, evOrT, evAnd, evOr, evC, evO, evI, bindF, thenF, nxR, getv, getb, bindP, setAll, ownD, putO, augF, frE, B1.fresh, runD, runM, outM, stF, st0, _root_.M.isNon, LIM, ev_bo, ev_be, ev_bb, ev_rs, ev_rn, ev_add, ev_sub, ev_mulr, ev_mull, ev_mod, ev_fdiv, ev_addl, ev_lt, ev_le, ev_gt, ev_ge, ev_eqi, ev_nei, ev_tb, ev_ti, ev_tn, ev_tl, ev_lenl, ev_lens, ev_lent, ev_abs, ev_int, ev_max2, ev_min2, ev_ai, ev_ixl, ev_ixs, ev_ixt, ev_sql, ev_sqs, ev_sqt, ev_rng, ev_rng2, ev_sl, ev_ss, setv_pl, pl_val, pl_own, pl_un, pl_nil, pl_cv, pl_co, pl_cu, List.getElem?_set, List.length_set, cget0, cget1, -getElem?_pos, hp, hl, k1, a26]
  have T6 := T5.set (i := 5) (d := .lst (row.map tD)) (by decide)
  have y5 := asg_nx (fu := 100000) T5 x5 (i := 5) (by decide)
  generalize S5.set 5 (.val (.lst (row.map tD))) = S6 at *
  have hone := asone_ok (r := r) (b := b) (g := g) (l := l) (w := sortT w) hs hrow (by omega)
  have x6 : evE ((.call "as_one" F_as_one (.cons (.var 3) (.cons (.var 5) .nil)))) S6 = .ok (tD (run s e3 row)) := by
    obtain ⟨hp, hl, k5, k4, k14, k13, k3, k2, k1, _⟩ := T6
    generalize tD (run s e3 row) = TW at *
    generalize skyD s (sortT w) r b g l = SK at *
    generalize row.map tD = RD at *
    clear hS0 y0 y1 y2 y3 y4 y5 x0 x1 x2 x3 x4 x5 erow
    simp (maxDischargeDepth := 12) [evSs, evS, evE, evEs, evT, evAndT, evOrT, evAnd, evOr, evC, evO, evI, bindF, thenF, nxR, getv, getb, bindP, setAll, ownD, putO, augF, frE, B1.fresh, runD, runM, outM, stF, st0, _root_.M.isNon, LIM, ev_bo, ev_be, ev_bb, ev_rs, ev_rn, ev_add, ev_sub, ev_mulr, ev_mull, ev_mod, ev_fdiv, ev_addl, ev_lt, ev_le, ev_gt, ev_ge, ev_eqi, ev_nei, ev_tb, ev_ti, ev_tn, ev_tl, ev_lenl, ev_lens, ev_lent, ev_abs, ev_int, ev_max2, ev_min2, ev_ai, ev_ixl, ev_ixs, ev_ixt, ev_sql, ev_sqs, ev_sqt, ev_rng, ev_rng2, ev_sl, ev_ss, setv_pl, pl_val, pl_own, pl_un, pl_nil, pl_cv, pl_co, pl_cu, List.getElem?_set, List.length_set, cget0, cget1, -getElem?_pos, hp, hl, k3, k5, hone]
  have T7 := T6.set (i := 6) (d := tD (run s e3 row)) (by decide)
  have y6 := asg_nx (fu := 100000) T6 x6 (i := 6) (by decide)
  generalize S6.set 6 (.val (tD (run s e3 row))) = S7 at *
  have hE3 : isA s e3 := ⟨0, 0, 0, rfl, ⟨by omega, by omega⟩, ⟨by omega, by omega⟩, by decide⟩
  have gT : ∀ t : List Int, cmpD .ne (tD t) (tD t) = .ok false := fun t => ne_same (good_t 59 t)
  have y7 : evS 100000 ((.ife (.v (.cmp .ne (.var 6) (.idx (.call "_law_course" F__law_course (.cons (.var 2) (.cons (.tup (.cons (.int 0) (.cons (.int 0) (.cons (.int 0) .nil)))) (.cons (.var 5) .nil)))) (.neg (.int 1))))) (.cons (.ret (.bl false)) .nil) .nil)) S7 = .nx S7 := by
    refine ife_f ?_
    obtain ⟨hp, hl, k6, k5, k4, k14, k13, k3, k2, k1, _⟩ := T7
    have e1 := lcourse_ok (s := s) (W := .lst (w.map tD)) (C := .tup [.int r, .int b, .int g, .int l]) hs0 hE3 hrow (by omega)
    have e1 : F__law_course [pD s (.lst (w.map tD)) (.tup [.int r, .int b, .int g, .int l]), .tup [.int 0, .int 0, .int 0], .lst (row.map tD)] = .ok (.lst ((scan s e3 row).map tD)) := e1
    have e2 := lrun_at (s := s) (x := e3) (R := row)
    have e4 := gT (run s e3 row)
    generalize (scan s e3 row).map tD = SC at *
    generalize tD (run s e3 row) = TW at *
    generalize pD s (.lst (w.map tD)) (.tup [.int r, .int b, .int g, .int l]) = PP at *
    generalize row.map tD = RD at *
    clear hS0 y0 y1 y2 y3 y4 y5 y6 x0 x1 x2 x3 x4 x5 x6 erow gT
    simp (maxDischargeDepth := 12) [evSs, evS, evE, evEs, evT, evAndT, evOrT, evAnd, evOr, evC, evO, evI, bindF, thenF, nxR, getv, getb, bindP, setAll, ownD, putO, augF, frE, B1.fresh, runD, runM, outM, stF, st0, _root_.M.isNon, LIM, ev_bo, ev_be, ev_bb, ev_rs, ev_rn, ev_add, ev_sub, ev_mulr, ev_mull, ev_mod, ev_fdiv, ev_addl, ev_lt, ev_le, ev_gt, ev_ge, ev_eqi, ev_nei, ev_tb, ev_ti, ev_tn, ev_tl, ev_lenl, ev_lens, ev_lent, ev_abs, ev_int, ev_max2, ev_min2, ev_ai, ev_ixl, ev_ixs, ev_ixt, ev_sql, ev_sqs, ev_sqt, ev_rng, ev_rng2, ev_sl, ev_ss, setv_pl, pl_val, pl_own, pl_un, pl_nil, pl_cv, pl_co, pl_cu, List.getElem?_set, List.length_set, cget0, cget1, -getElem?_pos, hp, hl, k2, k5, k6, e1, e2, e4]
  have y8 : evS 100000 ((.ife (.v (.b1 .any (.lc (.n 16) [("_law_one", 16)] (.seq (.lst (.cons (.var 13) (.cons (.var 14) .nil)))) .nil e1_law))) (.cons (.ret (.bl false)) .nil) .nil)) S7 = .nx S7 := by
    refine ife_f (v_f ?_)
    obtain ⟨hp, hl, k6, k5, k4, k14, k13, k3, k2, k1, _⟩ := T7
    have hI : evI ((.seq (.lst (.cons (.var 13) (.cons (.var 14) .nil))))) S7 = .ok ([at0_, go0].map tD) := by
      show evI _ S7 = .ok [tD at0_, tD go0]
      generalize tD at0_ = TA at *
      generalize tD go0 = TG at *
      clear hS0 y0 y1 y2 y3 y4 y5 y6 y7 x0 x1 x2 x3 x4 x5 x6 erow gT
      simp (maxDischargeDepth := 12) [evSs, evS, evE, evEs, evT, evAndT, evOrT, evAnd, evOr, evC, evO, evI, bindF, thenF, nxR, getv, getb, bindP, setAll, ownD, putO, augF, frE, B1.fresh, runD, runM, outM, stF, st0, _root_.M.isNon, LIM, ev_bo, ev_be, ev_bb, ev_rs, ev_rn, ev_add, ev_sub, ev_mulr, ev_mull, ev_mod, ev_fdiv, ev_addl, ev_lt, ev_le, ev_gt, ev_ge, ev_eqi, ev_nei, ev_tb, ev_ti, ev_tn, ev_tl, ev_lenl, ev_lens, ev_lent, ev_abs, ev_int, ev_max2, ev_min2, ev_ai, ev_ixl, ev_ixs, ev_ixt, ev_sql, ev_sqs, ev_sqt, ev_rng, ev_rng2, ev_sl, ev_ss, setv_pl, pl_val, pl_own, pl_un, pl_nil, pl_cv, pl_co, pl_cu, List.getElem?_set, List.length_set, cget0, cget1, -getElem?_pos, hp, hl, k13, k14]
    have hL := lc_ok (p := .n 16) (own := [("_law_one", 16)]) (c := .nil) (e := e1_law) (ds := [at0_, go0].map fun _ => M.D.bl false) hI (by show _ ≤ 16777216; simp) (lcRun_map _ fun t ht => ⟨_, setv_pl (pl_un hp) (by show 16 < (S7.set 16 Sl.un).length; rw [set_len, hl]; decide), rfl, by
      have htA : isA s t := by
        simp only [List.mem_cons, List.not_mem_nil, or_false] at ht
        rcases ht with rfl | rfl
        · exact hPA
        · exact hQA
      have e1 := lcourse_ok (s := s) (W := .lst (w.map tD)) (C := .tup [.int r, .int b, .int g, .int l]) hs0 htA hrow (by omega)
      have e2 := lrun_at (s := s) (x := t) (R := row)
      have e3' := lcomT_ok (W := .lst (w.map tD)) (C := .tup [.int r, .int b, .int g, .int l]) hs0 (isA_tri htA) (isA_tri (run_A hs0 hE3 hrt))
      rw [run_one hs0 htA hrt] at e3'
      have e4 := gT (run s t row)
      generalize (scan s t row).map tD = SC at *
      generalize tD (run s t row) = TR at *
      generalize tD (run s e3 row) = TW at *
      generalize tD t = T at *
      generalize pD s (.lst (w.map tD)) (.tup [.int r, .int b, .int g, .int l]) = PP at *
      generalize row.map tD = RD at *
      clear hS0 y0 y1 y2 y3 y4 y5 y6 y7 x0 x1 x2 x3 x4 x5 x6 erow gT hI
      simp (maxDischargeDepth := 12) [evSs, evS, evE, evEs, evT, evAndT, evOrT, evAnd, evOr, evC, evO, evI, bindF, thenF, nxR, getv, getb, bindP, setAll, ownD, putO, augF, frE, B1.fresh, runD, runM, outM, stF, st0, _root_.M.isNon, LIM, ev_bo, ev_be, ev_bb, ev_rs, ev_rn, ev_add, ev_sub, ev_mulr, ev_mull, ev_mod, ev_fdiv, ev_addl, ev_lt, ev_le, ev_gt, ev_ge, ev_eqi, ev_nei, ev_tb, ev_ti, ev_tn, ev_tl, ev_lenl, ev_lens, ev_lent, ev_abs, ev_int, ev_max2, ev_min2, ev_ai, ev_ixl, ev_ixs, ev_ixt, ev_sql, ev_sqs, ev_sqt, ev_rng, ev_rng2, ev_sl, ev_ss, setv_pl, pl_val, pl_own, pl_un, pl_nil, pl_cv, pl_co, pl_cu, List.getElem?_set, List.length_set, cget0, cget1, -getElem?_pos, wipeS, e1_law, hp, hl, k2, k5, k6, e1, e2, e3', e4]⟩)
    rw [evE, hL]
    rfl
  have x9 : evE ((.call "_law_rows" F__law_rows (.cons (.var 2) (.cons (.var 13) (.cons (.var 4) .nil))))) S7 = .ok DRV := by
    obtain ⟨hp, hl, k6, k5, k4, k14, k13, k3, k2, k1, _⟩ := T7
    generalize tD at0_ = TA at *
    generalize cs.map tD = CD at *
    generalize pD s (.lst (w.map tD)) (.tup [.int r, .int b, .int g, .int l]) = PP at *
    clear hS0 y0 y1 y2 y3 y4 y5 y6 y7 y8 x0 x1 x2 x3 x4 x5 x6 erow gT
    simp (maxDischargeDepth := 12) [evSs, evS, evE, evEs, evT, evAndT, evOrT, evAnd, evOr, evC, evO, evI, bindF, thenF, nxR, getv, getb, bindP, setAll, ownD, putO, augF, frE, B1.fresh, runD, runM, outM, stF, st0, _root_.M.isNon, LIM, ev_bo, ev_be, ev_bb, ev_rs, ev_rn, ev_add, ev_sub, ev_mulr, ev_mull, ev_mod, ev_fdiv, ev_addl, ev_lt, ev_le, ev_gt, ev_ge, ev_eqi, ev_nei, ev_tb, ev_ti, ev_tn, ev_tl, ev_lenl, ev_lens, ev_lent, ev_abs, ev_int, ev_max2, ev_min2, ev_ai, ev_ixl, ev_ixs, ev_ixt, ev_sql, ev_sqs, ev_sqt, ev_rng, ev_rng2, ev_sl, ev_ss, setv_pl, pl_val, pl_own, pl_un, pl_nil, pl_cv, pl_co, pl_cu, List.getElem?_set, List.length_set, cget0, cget1, -getElem?_pos, hp, hl, k2, k4, k13, hRo]
  have T9 := T7.set (i := 7) (d := DRV) (by decide)
  have y9 := asg_nx (fu := 100000) T7 x9 (i := 7) (by decide)
  generalize S7.set 7 (.val DRV) = S9 at *
  have T9' : Sat 18 [(7, .val DRV), (13, .val (tD at0_)), (14, .val (tD go0)), (4, .val (.lst (cs.map tD))), (3, .val (skyD s (sortT w) r b g l)), (2, .val (pD s (.lst (w.map tD)) (.tup [.int r, .int b, .int g, .int l]))), (1, .val (.lst (xs.map M.D.int)))] S9 := by
    obtain ⟨hp, hl, k7, k6, k5, k4, k14, k13, k3, k2, k1, _⟩ := T9
    exact ⟨hp, hl, k7, k13, k14, k4, k3, k2, k1, trivial⟩
  have y10 : evS 100000 ((.ife (.or (.cons (.v (.cmp .ne (.call "reached" F_reached (.cons (.var 3) (.cons (.var 13) (.cons (.var 4) .nil)))) (.b1 .sorted (.var 7)))) (.cons (.v (.cmp .ne (.b1 .len (.call "reached" F_reached (.cons (.var 3) (.cons (.var 14) (.cons (.var 4) .nil))))) (.b1 .len (.var 7)))) .nil))) (.cons (.ret (.bl false)) .nil) .nil)) S9 = .nx S9 := by
    refine ife_f ?_
    obtain ⟨hp, hl, k7, k13, k14, k4, k3, k2, k1, _⟩ := T9'
    generalize tD at0_ = TA at *
    generalize tD go0 = TG at *
    generalize cs.map tD = CD at *
    generalize skyD s (sortT w) r b g l = SK at *
    clear hS0 y0 y1 y2 y3 y4 y5 y6 y7 y8 y9 x0 x1 x2 x3 x4 x5 x6 x9 erow gT T9 T0 T1 T2 T3 T4 T5 T6 T7 eDR
    simp (maxDischargeDepth := 12) [evSs, evS, evE, evEs, evT, evAndT, evOrT, evAnd, evOr, evC, evO, evI, bindF, thenF, nxR, getv, getb, bindP, setAll, ownD, putO, augF, frE, B1.fresh, runD, runM, outM, stF, st0, _root_.M.isNon, LIM, ev_bo, ev_be, ev_bb, ev_rs, ev_rn, ev_add, ev_sub, ev_mulr, ev_mull, ev_mod, ev_fdiv, ev_addl, ev_lt, ev_le, ev_gt, ev_ge, ev_eqi, ev_nei, ev_tb, ev_ti, ev_tn, ev_tl, ev_lenl, ev_lens, ev_lent, ev_abs, ev_int, ev_max2, ev_min2, ev_ai, ev_ixl, ev_ixs, ev_ixt, ev_sql, ev_sqs, ev_sqt, ev_rng, ev_rng2, ev_sl, ev_ss, setv_pl, pl_val, pl_own, pl_un, pl_nil, pl_cv, pl_co, pl_cu, List.getElem?_set, List.length_set, cget0, cget1, -getElem?_pos, hp, hl, k3, k4, k7, k13, k14, hR1, hR2, hDs, hDl, hGl, gSt, -ev_lenl]
  have y11 : evS 100000 ((.ife (.or (.cons (.v (.cmp .ne (.call "row_to" F_row_to (.cons (.var 3) (.cons (.var 13) (.cons (.var 14) (.cons (.var 4) .nil))))) (.dget1 (.var 7) (.var 14)))) (.cons (.v (.cmp .ne (.call "row_to" F_row_to (.cons (.var 3) (.cons (.var 13) (.cons (.var 13) (.cons (.var 4) .nil))))) (.lst .nil))) .nil))) (.cons (.ret (.bl false)) .nil) .nil)) S9 = .nx S9 := by
    refine ife_f (or2_f (v_f (cmp_f (x := V) (y := V) ?_ ?_ (ne_same gV))) (v_f ?_))
    · obtain ⟨hp, hl, k7, k13, k14, k4, k3, k2, k1, _⟩ := T9'
      generalize tD at0_ = TA at *
      generalize tD go0 = TG at *
      generalize cs.map tD = CD at *
      generalize skyD s (sortT w) r b g l = SK at *
      clear hS0 y0 y1 y2 y3 y4 y5 y6 y7 y8 y9 y10 x0 x1 x2 x3 x4 x5 x6 x9 erow gT T9 T0 T1 T2 T3 T4 T5 T6 T7 eDR
      simp (maxDischargeDepth := 12) [evSs, evS, evE, evEs, evT, evAndT, evOrT, evAnd, evOr, evC, evO, evI, bindF, thenF, nxR, getv, getb, bindP, setAll, ownD, putO, augF, frE, B1.fresh, runD, runM, outM, stF, st0, _root_.M.isNon, LIM, ev_bo, ev_be, ev_bb, ev_rs, ev_rn, ev_add, ev_sub, ev_mulr, ev_mull, ev_mod, ev_fdiv, ev_addl, ev_lt, ev_le, ev_gt, ev_ge, ev_eqi, ev_nei, ev_tb, ev_ti, ev_tn, ev_tl, ev_lenl, ev_lens, ev_lent, ev_abs, ev_int, ev_max2, ev_min2, ev_ai, ev_ixl, ev_ixs, ev_ixt, ev_sql, ev_sqs, ev_sqt, ev_rng, ev_rng2, ev_sl, ev_ss, setv_pl, pl_val, pl_own, pl_un, pl_nil, pl_cv, pl_co, pl_cu, List.getElem?_set, List.length_set, cget0, cget1, -getElem?_pos, hp, hl, k3, k4, k13, k14, eV1]
    · obtain ⟨hp, hl, k7, k13, k14, k4, k3, k2, k1, _⟩ := T9'
      rw [eDR] at k7
      rw [evE, evE, getv_at k7, ev_bo]
      show (evE (.var 14) S9).bind _ = _
      rw [evE, getv_at k14, ev_bo, if_pos (keyOk_t go0), eV3]
    · obtain ⟨hp, hl, k7, k13, k14, k4, k3, k2, k1, _⟩ := T9'
      have e0 : cmpD .ne (rvD []) (.lst []) = .ok false := rfl
      generalize rvD [] = RE at *
      generalize tD at0_ = TA at *
      generalize cs.map tD = CD at *
      generalize skyD s (sortT w) r b g l = SK at *
      clear hS0 y0 y1 y2 y3 y4 y5 y6 y7 y8 y9 y10 x0 x1 x2 x3 x4 x5 x6 x9 erow gT T9 T0 T1 T2 T3 T4 T5 T6 T7 eDR
      simp (maxDischargeDepth := 12) [evSs, evS, evE, evEs, evT, evAndT, evOrT, evAnd, evOr, evC, evO, evI, bindF, thenF, nxR, getv, getb, bindP, setAll, ownD, putO, augF, frE, B1.fresh, runD, runM, outM, stF, st0, _root_.M.isNon, LIM, ev_bo, ev_be, ev_bb, ev_rs, ev_rn, ev_add, ev_sub, ev_mulr, ev_mull, ev_mod, ev_fdiv, ev_addl, ev_lt, ev_le, ev_gt, ev_ge, ev_eqi, ev_nei, ev_tb, ev_ti, ev_tn, ev_tl, ev_lenl, ev_lens, ev_lent, ev_abs, ev_int, ev_max2, ev_min2, ev_ai, ev_ixl, ev_ixs, ev_ixt, ev_sql, ev_sqs, ev_sqt, ev_rng, ev_rng2, ev_sl, ev_ss, setv_pl, pl_val, pl_own, pl_un, pl_nil, pl_cv, pl_co, pl_cu, List.getElem?_set, List.length_set, cget0, cget1, -getElem?_pos, hp, hl, k3, k4, k13, eS1, e0]
  have x12 : evE ((.idx (.b1 .sorted (.var 7)) (.bin .mod (.b1 .int (.idx (.var 1) (.int 36))) (.b1 .len (.var 7))))) S9 = .ok (tD far) := by
    obtain ⟨hp, hl, k7, k13, k14, k4, k3, k2, k1, _⟩ := T9'
    generalize tD far = TF at *
    generalize xs.map M.D.int = XD at *
    clear hS0 y0 y1 y2 y3 y4 y5 y6 y7 y8 y9 y10 y11 x0 x1 x2 x3 x4 x5 x6 x9 erow gT T9 T0 T1 T2 T3 T4 T5 T6 T7 eDR
    simp (maxDischargeDepth := 12) [evSs, evS, evE, evEs, evT, evAndT, evOrT, evAnd, evOr, evC, evO, evI, bindF, thenF, nxR, getv, getb, bindP, setAll, ownD, putO, augF, frE, B1.fresh, runD, runM, outM, stF, st0, _root_.M.isNon, LIM, ev_bo, ev_be, ev_bb, ev_rs, ev_rn, ev_add, ev_sub, ev_mulr, ev_mull, ev_mod, ev_fdiv, ev_addl, ev_lt, ev_le, ev_gt, ev_ge, ev_eqi, ev_nei, ev_tb, ev_ti, ev_tn, ev_tl, ev_lenl, ev_lens, ev_lent, ev_abs, ev_int, ev_max2, ev_min2, ev_ai, ev_ixl, ev_ixs, ev_ixt, ev_sql, ev_sqs, ev_sqt, ev_rng, ev_rng2, ev_sl, ev_ss, setv_pl, pl_val, pl_own, pl_un, pl_nil, pl_cv, pl_co, pl_cu, List.getElem?_set, List.length_set, cget0, cget1, -getElem?_pos, hp, hl, k7, k1, hDs, hDl, a36, hlnp, efar]
  have T12 := T9'.set (i := 8) (d := tD far) (by decide)
  have y12 := asg_nx (fu := 100000) T9' x12 (i := 8) (by decide)
  generalize S9.set 8 (.val (tD far)) = S12 at *
  have y13 : evS 100000 ((.ife (.v (.cmp .ne (.call "row_to" F_row_to (.cons (.var 3) (.cons (.var 13) (.cons (.var 8) (.cons (.var 4) .nil))))) (.idx (.var 7) (.var 8)))) (.cons (.ret (.bl false)) .nil) .nil)) S12 = .nx S12 := by
    refine ife_f ?_
    obtain ⟨hp, hl, k8, k7, k13, k14, k4, k3, k2, k1, _⟩ := T12
    have e0 := ne_same gF
    have e5 : evE (.idx (.var 7) (.var 8)) S12 = .ok FV := by rw [evE, evE, getv_at k7, ev_bo, evE, getv_at k8, ev_bo, eF2]
    refine v_f (cmp_f (x := FV) (y := FV) ?_ e5 e0)
    generalize tD at0_ = TA at *
    generalize tD far = TF at *
    generalize cs.map tD = CD at *
    generalize skyD s (sortT w) r b g l = SK at *
    clear hS0 y0 y1 y2 y3 y4 y5 y6 y7 y8 y9 y10 y11 y12 x0 x1 x2 x3 x4 x5 x6 x9 x12 erow gT T9 T0 T1 T2 T3 T4 T5 T6 T7 eDR
    simp (maxDischargeDepth := 12) [evSs, evS, evE, evEs, evT, evAndT, evOrT, evAnd, evOr, evC, evO, evI, bindF, thenF, nxR, getv, getb, bindP, setAll, ownD, putO, augF, frE, B1.fresh, runD, runM, outM, stF, st0, _root_.M.isNon, LIM, ev_bo, ev_be, ev_bb, ev_rs, ev_rn, ev_add, ev_sub, ev_mulr, ev_mull, ev_mod, ev_fdiv, ev_addl, ev_lt, ev_le, ev_gt, ev_ge, ev_eqi, ev_nei, ev_tb, ev_ti, ev_tn, ev_tl, ev_lenl, ev_lens, ev_lent, ev_abs, ev_int, ev_max2, ev_min2, ev_ai, ev_ixl, ev_ixs, ev_ixt, ev_sql, ev_sqs, ev_sqt, ev_rng, ev_rng2, ev_sl, ev_ss, setv_pl, pl_val, pl_own, pl_un, pl_nil, pl_cv, pl_co, pl_cu, List.getElem?_set, List.length_set, cget0, cget1, -getElem?_pos, hp, hl, k3, k4, k13, k8, eF1]
  have x14 : evE ((.idx (.var 2) (.int 0))) S12 = .ok (.int s) := by
    obtain ⟨hp, hl, k8, k7, k13, k14, k4, k3, k2, k1, _⟩ := T12
    have e1 := p0 s (.lst (w.map tD)) (.tup [.int r, .int b, .int g, .int l])
    unfold pD at k2
    generalize w.map tD = WD at *
    clear hS0 y0 y1 y2 y3 y4 y5 y6 y7 y8 y9 y10 y11 y12 y13 x0 x1 x2 x3 x4 x5 x6 x9 x12 erow gT T9 T0 T1 T2 T3 T4 T5 T6 T7 eDR T9'
    simp (maxDischargeDepth := 12) [evSs, evS, evE, evEs, evT, evAndT, evOrT, evAnd, evOr, evC, evO, evI, bindF, thenF, nxR, getv, getb, bindP, setAll, ownD, putO, augF, frE, B1.fresh, runD, runM, outM, stF, st0, _root_.M.isNon, LIM, ev_bo, ev_be, ev_bb, ev_rs, ev_rn, ev_add, ev_sub, ev_mulr, ev_mull, ev_mod, ev_fdiv, ev_addl, ev_lt, ev_le, ev_gt, ev_ge, ev_eqi, ev_nei, ev_tb, ev_ti, ev_tn, ev_tl, ev_lenl, ev_lens, ev_lent, ev_abs, ev_int, ev_max2, ev_min2, ev_ai, ev_ixl, ev_ixs, ev_ixt, ev_sql, ev_sqs, ev_sqt, ev_rng, ev_rng2, ev_sl, ev_ss, setv_pl, pl_val, pl_own, pl_un, pl_nil, pl_cv, pl_co, pl_cu, List.getElem?_set, List.length_set, cget0, cget1, -getElem?_pos, hp, hl, k2, e1]
  have T14 := T12.set (i := 9) (d := .int s) (by decide)
  have y14 := asg_nx (fu := 100000) T12 x14 (i := 9) (by decide)
  generalize S12.set 9 (.val (.int s)) = S14 at *
  obtain ⟨wu, wv, wk, hwr, ewr⟩ := wrong_at hs (i := n37 % 5) (by omega)
  have x15 : evE ((.idx (.lst (.cons (.tup (.cons (.var 9) (.cons (.int 0) (.cons (.int 0) .nil)))) (.cons (.tup (.cons (.int 0) (.cons (.bin .sub (.int 0) (.var 9)) (.cons (.int 1) .nil)))) (.cons (.tup (.cons (.int 0) (.cons (.int 0) (.cons (.int 4) .nil)))) (.cons (.tup (.cons (.int 0) (.cons (.var 9) (.cons (.int 1) .nil)))) (.cons (.tup (.cons (.int 0) (.cons (.int 1) (.cons (.bin .sub (.int 0) (.int 1)) .nil)))) .nil)))))) (.bin .mod (.b1 .int (.idx (.var 1) (.int 37))) (.int 5)))) S14 = .ok (aD wu wv wk) := by
    obtain ⟨hp, hl, k9, k8, k7, k13, k14, k4, k3, k2, k1, _⟩ := T14
    generalize aD wu wv wk = TW at *
    generalize xs.map M.D.int = XD at *
    clear hS0 y0 y1 y2 y3 y4 y5 y6 y7 y8 y9 y10 y11 y12 y13 y14 x0 x1 x2 x3 x4 x5 x6 x9 x12 x14 erow gT T9 T0 T1 T2 T3 T4 T5 T6 T7 eDR T9' T12
    simp only [Int.zero_sub] at ewr
    simp (maxDischargeDepth := 12) [evSs, evS, evE, evEs, evT, evAndT, evOrT, evAnd, evOr, evC, evO, evI, bindF, thenF, nxR, getv, getb, bindP, setAll, ownD, putO, augF, frE, B1.fresh, runD, runM, outM, stF, st0, _root_.M.isNon, LIM, ev_bo, ev_be, ev_bb, ev_rs, ev_rn, ev_add, ev_sub, ev_mulr, ev_mull, ev_mod, ev_fdiv, ev_addl, ev_lt, ev_le, ev_gt, ev_ge, ev_eqi, ev_nei, ev_tb, ev_ti, ev_tn, ev_tl, ev_lenl, ev_lens, ev_lent, ev_abs, ev_int, ev_max2, ev_min2, ev_ai, ev_ixl, ev_ixs, ev_ixt, ev_sql, ev_sqs, ev_sqt, ev_rng, ev_rng2, ev_sl, ev_ss, setv_pl, pl_val, pl_own, pl_un, pl_nil, pl_cv, pl_co, pl_cu, List.getElem?_set, List.length_set, cget0, cget1, -getElem?_pos, hp, hl, k9, k1, a37, ewr]
  have T15 := T14.set (i := 10) (d := aD wu wv wk) (by decide)
  have y15 := asg_nx (fu := 100000) T14 x15 (i := 10) (by decide)
  generalize S14.set 10 (.val (aD wu wv wk)) = S15 at *
  have x16 : evE ((.bin .add (.var 4) (.lst (.cons (.var 10) (.cons (.tup (.cons (.bin .add (.var 9) (.int 1)) (.cons (.int 0) (.cons (.int 0) .nil)))) .nil))))) S15 = .ok (.lst (cs.map tD ++ aD wu wv wk :: [aD (s + 1) 0 0])) := by
    obtain ⟨hp, hl, k10, k9, k8, k7, k13, k14, k4, k3, k2, k1, _⟩ := T15
    have e1 : binD .add (.lst (cs.map tD)) (.lst [aD wu wv wk, aD (s + 1) 0 0]) = .ok (.lst (cs.map tD ++ aD wu wv wk :: [aD (s + 1) 0 0])) := ev_addl (by rw [List.length_map]; simp only [List.length_cons, List.length_nil]; omega)
    have u1 : aD (s + 1) 0 0 = .tup [.int (s + 1), .int 0, .int 0] := rfl
    rw [u1] at e1 ⊢
    generalize cs.map tD ++ aD wu wv wk :: [.tup [.int (s + 1), .int 0, .int 0]] = SP at *
    generalize aD wu wv wk = TW at *
    generalize cs.map tD = CD at *
    clear hS0 y0 y1 y2 y3 y4 y5 y6 y7 y8 y9 y10 y11 y12 y13 y14 y15 x0 x1 x2 x3 x4 x5 x6 x9 x12 x14 x15 erow gT T9 T0 T1 T2 T3 T4 T5 T6 T7 eDR T9' T12 T14
    simp (maxDischargeDepth := 12) [evSs, evS, evE, evEs, evT, evAndT, evOrT, evAnd, evOr, evC, evO, evI, bindF, thenF, nxR, getv, getb, bindP, setAll, ownD, putO, augF, frE, B1.fresh, runD, runM, outM, stF, st0, _root_.M.isNon, LIM, ev_bo, ev_be, ev_bb, ev_rs, ev_rn, ev_add, ev_sub, ev_mulr, ev_mull, ev_mod, ev_fdiv, ev_addl, ev_lt, ev_le, ev_gt, ev_ge, ev_eqi, ev_nei, ev_tb, ev_ti, ev_tn, ev_tl, ev_lenl, ev_lens, ev_lent, ev_abs, ev_int, ev_max2, ev_min2, ev_ai, ev_ixl, ev_ixs, ev_ixt, ev_sql, ev_sqs, ev_sqt, ev_rng, ev_rng2, ev_sl, ev_ss, setv_pl, pl_val, pl_own, pl_un, pl_nil, pl_cv, pl_co, pl_cu, List.getElem?_set, List.length_set, cget0, cget1, -getElem?_pos, hp, hl, k4, k9, k10, e1, -ev_addl]
  have T16 := T15.set (i := 11) (d := .lst (cs.map tD ++ aD wu wv wk :: [aD (s + 1) 0 0])) (by decide)
  have y16 := asg_nx (fu := 100000) T15 x16 (i := 11) (by decide)
  have hcw := cmd_no (r := r) (b := b) (g := g) (l := l) (w := sortT w) hwr
  have hcr := ccr_no (m := [aD (s + 1) 0 0]) hs hcs hcw
  have hctn := cct_no (m := [aD (s + 1) 0 0]) hs hcs hcw
  have t0' := told_0 (T := tD at0_) (G := tD go0) (asone_no hs hcr)
  have t1' := told_1 (G := tD go0) (reached_cm (T := .non) hPA hctn)
  have t2' := told_2 (rowto_cm hPA hQA hctn)
  have gCm : cmpD .ne (.tup [.str "command", aD wu wv wk]) (.tup [.str "command", aD wu wv wk]) = .ok false := ne_same (good_w (by decide +kernel))
  generalize S15.set 11 (.val (.lst (cs.map tD ++ aD wu wv wk :: [aD (s + 1) 0 0]))) = S16 at *
  generalize cs.map tD ++ aD wu wv wk :: [aD (s + 1) 0 0] = SP at *
  have y17 : evS 100000 ((.ife (.v (.b1 .any (.lc (.n 17) [("_law_which", 17)] (.r1 (.int 3)) .nil e2_law))) (.cons (.ret (.bl false)) .nil) .nil)) S16 = .nx S16 := by
    refine ife_f (v_f ?_)
    obtain ⟨hp, hl, k11, k10, k9, k8, k7, k13, k14, k4, k3, k2, k1, _⟩ := T16
    have hI : evI (.r1 (.int 3)) S16 = .ok ([(0 : Int), 1, 2].map M.D.int) := rfl
    have hL := lc_ok (p := .n 17) (own := [("_law_which", 17)]) (c := .nil) (e := e2_law) (ds := [(0 : Int), 1, 2].map fun _ => M.D.bl false) hI (by show _ ≤ 16777216; simp) (lcRun_map _ fun t ht => ⟨_, setv_pl (pl_un hp) (by show 17 < (S16.set 17 Sl.un).length; rw [set_len, hl]; decide), rfl, by
      generalize tD at0_ = TA at *
      generalize tD go0 = TG at *
      generalize aD wu wv wk = TW at *
      generalize skyD s (sortT w) r b g l = SK at *
      clear hS0 y0 y1 y2 y3 y4 y5 y6 y7 y8 y9 y10 y11 y12 y13 y14 y15 y16 x0 x1 x2 x3 x4 x5 x6 x9 x12 x14 x15 x16 erow gT T9 T0 T1 T2 T3 T4 T5 T6 T7 eDR T9' T12 T14 T15 hI
      simp only [List.mem_cons, List.not_mem_nil, or_false] at ht
      rcases ht with rfl | rfl | rfl
      · simp (maxDischargeDepth := 12) [evSs, evS, evE, evEs, evT, evAndT, evOrT, evAnd, evOr, evC, evO, evI, bindF, thenF, nxR, getv, getb, bindP, setAll, ownD, putO, augF, frE, B1.fresh, runD, runM, outM, stF, st0, _root_.M.isNon, LIM, ev_bo, ev_be, ev_bb, ev_rs, ev_rn, ev_add, ev_sub, ev_mulr, ev_mull, ev_mod, ev_fdiv, ev_addl, ev_lt, ev_le, ev_gt, ev_ge, ev_eqi, ev_nei, ev_tb, ev_ti, ev_tn, ev_tl, ev_lenl, ev_lens, ev_lent, ev_abs, ev_int, ev_max2, ev_min2, ev_ai, ev_ixl, ev_ixs, ev_ixt, ev_sql, ev_sqs, ev_sqt, ev_rng, ev_rng2, ev_sl, ev_ss, setv_pl, pl_val, pl_own, pl_un, pl_nil, pl_cv, pl_co, pl_cu, List.getElem?_set, List.length_set, cget0, cget1, -getElem?_pos, wipeS, e2_law, hp, hl, k3, k13, k14, k11, k10, t0', gCm]
      · simp (maxDischargeDepth := 12) [evSs, evS, evE, evEs, evT, evAndT, evOrT, evAnd, evOr, evC, evO, evI, bindF, thenF, nxR, getv, getb, bindP, setAll, ownD, putO, augF, frE, B1.fresh, runD, runM, outM, stF, st0, _root_.M.isNon, LIM, ev_bo, ev_be, ev_bb, ev_rs, ev_rn, ev_add, ev_sub, ev_mulr, ev_mull, ev_mod, ev_fdiv, ev_addl, ev_lt, ev_le, ev_gt, ev_ge, ev_eqi, ev_nei, ev_tb, ev_ti, ev_tn, ev_tl, ev_lenl, ev_lens, ev_lent, ev_abs, ev_int, ev_max2, ev_min2, ev_ai, ev_ixl, ev_ixs, ev_ixt, ev_sql, ev_sqs, ev_sqt, ev_rng, ev_rng2, ev_sl, ev_ss, setv_pl, pl_val, pl_own, pl_un, pl_nil, pl_cv, pl_co, pl_cu, List.getElem?_set, List.length_set, cget0, cget1, -getElem?_pos, wipeS, e2_law, hp, hl, k3, k13, k14, k11, k10, t1', gCm]
      · simp (maxDischargeDepth := 12) [evSs, evS, evE, evEs, evT, evAndT, evOrT, evAnd, evOr, evC, evO, evI, bindF, thenF, nxR, getv, getb, bindP, setAll, ownD, putO, augF, frE, B1.fresh, runD, runM, outM, stF, st0, _root_.M.isNon, LIM, ev_bo, ev_be, ev_bb, ev_rs, ev_rn, ev_add, ev_sub, ev_mulr, ev_mull, ev_mod, ev_fdiv, ev_addl, ev_lt, ev_le, ev_gt, ev_ge, ev_eqi, ev_nei, ev_tb, ev_ti, ev_tn, ev_tl, ev_lenl, ev_lens, ev_lent, ev_abs, ev_int, ev_max2, ev_min2, ev_ai, ev_ixl, ev_ixs, ev_ixt, ev_sql, ev_sqs, ev_sqt, ev_rng, ev_rng2, ev_sl, ev_ss, setv_pl, pl_val, pl_own, pl_un, pl_nil, pl_cv, pl_co, pl_cu, List.getElem?_set, List.length_set, cget0, cget1, -getElem?_pos, wipeS, e2_law, hp, hl, k3, k13, k14, k11, k10, t2', gCm]⟩)
    rw [evE, hL]
    rfl
  have x18 : evE ((.tup (.cons (.var 9) (.cons (.int 0) (.cons (.int 0) .nil))))) S16 = .ok (aD s 0 0) := by
    obtain ⟨hp, hl, k11, k10, k9, _⟩ := T16
    clear hS0 y0 y1 y2 y3 y4 y5 y6 y7 y8 y9 y10 y11 y12 y13 y14 y15 y16 y17 x0 x1 x2 x3 x4 x5 x6 x9 x12 x14 x15 x16 erow gT
    unfold aD
    simp (maxDischargeDepth := 12) [evSs, evS, evE, evEs, evT, evAndT, evOrT, evAnd, evOr, evC, evO, evI, bindF, thenF, nxR, getv, getb, bindP, setAll, ownD, putO, augF, frE, B1.fresh, runD, runM, outM, stF, st0, _root_.M.isNon, LIM, ev_bo, ev_be, ev_bb, ev_rs, ev_rn, ev_add, ev_sub, ev_mulr, ev_mull, ev_mod, ev_fdiv, ev_addl, ev_lt, ev_le, ev_gt, ev_ge, ev_eqi, ev_nei, ev_tb, ev_ti, ev_tn, ev_tl, ev_lenl, ev_lens, ev_lent, ev_abs, ev_int, ev_max2, ev_min2, ev_ai, ev_ixl, ev_ixs, ev_ixt, ev_sql, ev_sqs, ev_sqt, ev_rng, ev_rng2, ev_sl, ev_ss, setv_pl, pl_val, pl_own, pl_un, pl_nil, pl_cv, pl_co, pl_cu, List.getElem?_set, List.length_set, cget0, cget1, -getElem?_pos, hp, hl, k9]
  have T18 := T16.set (i := 12) (d := aD s 0 0) (by decide)
  have y18 := asg_nx (fu := 100000) T16 x18 (i := 12) (by decide)
  generalize S16.set 12 (.val (aD s 0 0)) = S18 at *
  have hout := mot_no (r := r) (b := b) (g := g) (l := l) (w := sortT w) (s := s) (x := s) (y := 0) (z := 0) (by omega)
  have gAt : cmpD .ne (.tup [.str "attitude", aD s 0 0]) (.tup [.str "attitude", aD s 0 0]) = .ok false := ne_same (good_w (by decide +kernel))
  have gAe : cmpD .eq (.tup [.str "attitude", aD s 0 0]) (.tup [.str "attitude", aD s 0 0]) = .ok true := eq_same (good_w (by decide +kernel))
  have o1 := told_1a (G := tD go0) (reached_at (CD := .lst SP) hout)
  have o2 := told_2a (rowto_at (G := tD go0) (CD := .lst SP) hout)
  have o3 := told_2a (rowto_go (CD := .lst SP) hPA hout)
  have y19 : evS 100000 ((.ife (.or (.cons (.v (.cmp .ne (.call "_law_told" F__law_told (.cons (.int 1) (.cons (.var 3) (.cons (.var 12) (.cons (.var 14) (.cons (.var 11) .nil)))))) (.tup (.cons (.str "attitude") (.cons (.var 12) .nil))))) (.cons (.v (.cmp .ne (.call "_law_told" F__law_told (.cons (.int 2) (.cons (.var 3) (.cons (.var 12) (.cons (.var 14) (.cons (.var 11) .nil)))))) (.tup (.cons (.str "attitude") (.cons (.var 12) .nil))))) .nil))) (.cons (.ret (.bl false)) .nil) .nil)) S18 = .nx S18 := by
    refine ife_f ?_
    obtain ⟨hp, hl, k12, k11, k10, k9, k8, k7, k13, k14, k4, k3, _⟩ := T18
    generalize tD at0_ = TA at *
    generalize tD go0 = TG at *
    generalize aD s 0 0 = TO at *
    generalize skyD s (sortT w) r b g l = SK at *
    clear hS0 y0 y1 y2 y3 y4 y5 y6 y7 y8 y9 y10 y11 y12 y13 y14 y15 y16 y17 y18 x0 x1 x2 x3 x4 x5 x6 x9 x12 x14 x15 x16 x18 erow gT T9 T0 T1 T2 T3 T4 T5 T6 T7 eDR T9' T12 T14 T15 T16
    simp (maxDischargeDepth := 12) [evSs, evS, evE, evEs, evT, evAndT, evOrT, evAnd, evOr, evC, evO, evI, bindF, thenF, nxR, getv, getb, bindP, setAll, ownD, putO, augF, frE, B1.fresh, runD, runM, outM, stF, st0, _root_.M.isNon, LIM, ev_bo, ev_be, ev_bb, ev_rs, ev_rn, ev_add, ev_sub, ev_mulr, ev_mull, ev_mod, ev_fdiv, ev_addl, ev_lt, ev_le, ev_gt, ev_ge, ev_eqi, ev_nei, ev_tb, ev_ti, ev_tn, ev_tl, ev_lenl, ev_lens, ev_lent, ev_abs, ev_int, ev_max2, ev_min2, ev_ai, ev_ixl, ev_ixs, ev_ixt, ev_sql, ev_sqs, ev_sqt, ev_rng, ev_rng2, ev_sl, ev_ss, setv_pl, pl_val, pl_own, pl_un, pl_nil, pl_cv, pl_co, pl_cu, List.getElem?_set, List.length_set, cget0, cget1, -getElem?_pos, hp, hl, k3, k11, k12, k14, o1, o2, gAt]
  have x20 : evE ((.cmp .eq (.call "_law_told" F__law_told (.cons (.int 2) (.cons (.var 3) (.cons (.var 13) (.cons (.var 12) (.cons (.var 11) .nil)))))) (.tup (.cons (.str "attitude") (.cons (.var 12) .nil))))) S18 = .ok (.bl true) := by
    obtain ⟨hp, hl, k12, k11, k10, k9, k8, k7, k13, k14, k4, k3, _⟩ := T18
    generalize tD at0_ = TA at *
    generalize tD go0 = TG at *
    generalize aD s 0 0 = TO at *
    generalize skyD s (sortT w) r b g l = SK at *
    clear hS0 y0 y1 y2 y3 y4 y5 y6 y7 y8 y9 y10 y11 y12 y13 y14 y15 y16 y17 y18 y19 x0 x1 x2 x3 x4 x5 x6 x9 x12 x14 x15 x16 x18 erow gT T9 T0 T1 T2 T3 T4 T5 T6 T7 eDR T9' T12 T14 T15 T16
    simp (maxDischargeDepth := 12) [evSs, evS, evE, evEs, evT, evAndT, evOrT, evAnd, evOr, evC, evO, evI, bindF, thenF, nxR, getv, getb, bindP, setAll, ownD, putO, augF, frE, B1.fresh, runD, runM, outM, stF, st0, _root_.M.isNon, LIM, ev_bo, ev_be, ev_bb, ev_rs, ev_rn, ev_add, ev_sub, ev_mulr, ev_mull, ev_mod, ev_fdiv, ev_addl, ev_lt, ev_le, ev_gt, ev_ge, ev_eqi, ev_nei, ev_tb, ev_ti, ev_tn, ev_tl, ev_lenl, ev_lens, ev_lent, ev_abs, ev_int, ev_max2, ev_min2, ev_ai, ev_ixl, ev_ixs, ev_ixt, ev_sql, ev_sqs, ev_sqt, ev_rng, ev_rng2, ev_sl, ev_ss, setv_pl, pl_val, pl_own, pl_un, pl_nil, pl_cv, pl_co, pl_cu, List.getElem?_set, List.length_set, cget0, cget1, -getElem?_pos, hp, hl, k3, k11, k12, k13, o3, gAe]
  have y20 : evS 100000 ((.ret (.cmp .eq (.call "_law_told" F__law_told (.cons (.int 2) (.cons (.var 3) (.cons (.var 13) (.cons (.var 12) (.cons (.var 11) .nil)))))) (.tup (.cons (.str "attitude") (.cons (.var 12) .nil)))))) S18 = .rt (.bl true) S18 := by rw [evS, x20]; rfl
  refine rt_of (st := S0) (st' := S18) (by rw [← hS0]; rfl) ?_
  unfold ir_law
  rw [seq_nx y0, seq_nx y1, seq_nx y2, seq_nx y3, seq_nx y4, seq_nx y5, seq_nx y6, seq_nx y7, seq_nx y8, seq_nx y9, seq_nx y10, seq_nx y11, seq_nx y12, seq_nx y13, seq_nx y14, seq_nx y15, seq_nx y16, seq_nx y17, seq_nx y18, seq_nx y19, evSs, y20]
  rfl
end K47
set_option Elab.async false
set_option linter.all false
set_option maxRecDepth 100000
set_option maxHeartbeats 4000000
namespace K47
open PySem L2 M
abbrev x_InvalidAttitude : Stmt := inClass (top 4) 0
theorem xt_InvalidAttitude : R1T x_InvalidAttitude "attitude" where
  tx := ⟨_, _, _, _, _, _, _, _, _, _, _, _, _, _, rfl, ⟨_, _, rfl, rfl, rfl, rfl, rfl, rfl, rfl, rfl⟩, by decide +kernel, by decide +kernel, by decide +kernel, by decide +kernel, by decide +kernel, by decide +kernel⟩
  su := by decide +kernel
  cl := by decide +kernel
  nc := by decide +kernel
  co := rfl
  ge := rfl
  ki := rfl
  bd := fun _ _ _ _ _ _ _ _ _ _ => ⟨_, _, ⟨_, _, rfl, rfl, rfl⟩, rfl⟩
abbrev x_InvalidCommand : Stmt := inClass (top 5) 0
theorem xt_InvalidCommand : R1T x_InvalidCommand "command" where
  tx := ⟨_, _, _, _, _, _, _, _, _, _, _, _, _, _, rfl, ⟨_, _, rfl, rfl, rfl, rfl, rfl, rfl, rfl, rfl⟩, by decide +kernel, by decide +kernel, by decide +kernel, by decide +kernel, by decide +kernel, by decide +kernel⟩
  su := by decide +kernel
  cl := by decide +kernel
  nc := by decide +kernel
  co := rfl
  ge := rfl
  ki := rfl
  bd := fun _ _ _ _ _ _ _ _ _ _ => ⟨_, _, ⟨_, _, rfl, rfl, rfl⟩, rfl⟩
theorem all_mk {l : PySem.W.OpenLaw} {w : World} {K : PySem.W.Frag} {h : Heap} {mg : Str → Option Value} {fa : Addr} {tk0 : Tok} {C4 : Addr} {C0 : Addr} {C1 : Addr} {C2 : Addr} {C3 : Addr} {nm2 q2 : Str} {Nx2 fI2 cda2 cc2 : Addr} {bs2 bm2 : List Value} {sn2 : List Str} {sub2 : List Value} {ab2 : Bool} {col2 : Option Bool} {dd2 xod2 xan2 cdd2 cld2 : Option Addr} {m02 m12 m22 m32 m52 : Option Value} {xoc2 xkV2 xdc2 xpm2 xct2 ccl2 cl2 : Value} {xsl2 ccs2 csl2 : Array (Option Value)} {vs2 : Array Value} {file2 : Str} {tf2 : Tok} {nm3 q3 : Str} {Nx3 fI3 cda3 cc3 : Addr} {bs3 bm3 : List Value} {sn3 : List Str} {sub3 : List Value} {ab3 : Bool} {col3 : Option Bool} {dd3 xod3 xan3 cdd3 cld3 : Option Addr} {m03 m13 m23 m33 m53 : Option Value} {xoc3 xkV3 xdc3 xpm3 xct3 ccl3 cl3 : Value} {xsl3 ccs3 csl3 : Array (Option Value)} {vs3 : Array Value} {file3 : Str} {tf3 : Tok} {f0 : Addr} {od0 an0 : Option Addr} {sl0 : Array (Option Value)} {oc0 kV0 dc0 pm0 cd0 ct0 : Value} {f1 : Addr} {od1 an1 : Option Addr} {sl1 : Array (Option Value)} {oc1 kV1 dc1 pm1 cd1 ct1 : Value} {f2 : Addr} {od2 an2 : Option Addr} {sl2 : Array (Option Value)} {oc2 kV2 dc2 pm2 cd2 ct2 : Value} {f3 : Addr} {od3 an3 : Option Addr} {sl3 : Array (Option Value)} {oc3 kV3 dc3 pm3 cd3 ct3 : Value} {f4 : Addr} {od4 an4 : Option Addr} {sl4 : Array (Option Value)} {oc4 kV4 dc4 pm4 cd4 ct4 : Value} {f5 : Addr} {od5 an5 : Option Addr} {sl5 : Array (Option Value)} {oc5 kV5 dc5 pm5 cd5 ct5 : Value} {f6 : Addr} {od6 an6 : Option Addr} {sl6 : Array (Option Value)} {oc6 kV6 dc6 pm6 cd6 ct6 : Value} {f7 : Addr} {od7 an7 : Option Addr} {sl7 : Array (Option Value)} {oc7 kV7 dc7 pm7 cd7 ct7 : Value} {f8 : Addr} {od8 an8 : Option Addr} {sl8 : Array (Option Value)} {oc8 kV8 dc8 pm8 cd8 ct8 : Value} {f9 : Addr} {od9 an9 : Option Addr} {sl9 : Array (Option Value)} {oc9 kV9 dc9 pm9 cd9 ct9 : Value} {f10 : Addr} {od10 an10 : Option Addr} {sl10 : Array (Option Value)} {oc10 kV10 dc10 pm10 cd10 ct10 : Value} {f11 : Addr} {od11 an11 : Option Addr} {sl11 : Array (Option Value)} {oc11 kV11 dc11 pm11 cd11 ct11 : Value} {f12 : Addr} {od12 an12 : Option Addr} {sl12 : Array (Option Value)} {oc12 kV12 dc12 pm12 cd12 ct12 : Value} {f13 : Addr} {od13 an13 : Option Addr} {sl13 : Array (Option Value)} {oc13 kV13 dc13 pm13 cd13 ct13 : Value} {f14 : Addr} {od14 an14 : Option Addr} {sl14 : Array (Option Value)} {oc14 kV14 dc14 pm14 cd14 ct14 : Value} {p14 : Addr} {rs14 : List Value} {f15 : Addr} {od15 an15 : Option Addr} {sl15 : Array (Option Value)} {oc15 kV15 dc15 pm15 cd15 ct15 : Value} {f16 : Addr} {od16 an16 : Option Addr} {sl16 : Array (Option Value)} {oc16 kV16 dc16 pm16 cd16 ct16 : Value} {f17 : Addr} {od17 an17 : Option Addr} {sl17 : Array (Option Value)} {oc17 kV17 dc17 pm17 cd17 ct17 : Value} {f18 : Addr} {od18 an18 : Option Addr} {sl18 : Array (Option Value)} {oc18 kV18 dc18 pm18 cd18 ct18 : Value} {f19 : Addr} {od19 an19 : Option Addr} {sl19 : Array (Option Value)} {oc19 kV19 dc19 pm19 cd19 ct19 : Value} {f20 : Addr} {od20 an20 : Option Addr} {sl20 : Array (Option Value)} {oc20 kV20 dc20 pm20 cd20 ct20 : Value} {f21 : Addr} {od21 an21 : Option Addr} {sl21 : Array (Option Value)} {oc21 kV21 dc21 pm21 cd21 ct21 : Value} {f22 : Addr} {od22 an22 : Option Addr} {sl22 : Array (Option Value)} {oc22 kV22 dc22 pm22 cd22 ct22 : Value} {f23 : Addr} {od23 an23 : Option Addr} {sl23 : Array (Option Value)} {oc23 kV23 dc23 pm23 cd23 ct23 : Value} {f24 : Addr} {od24 an24 : Option Addr} {sl24 : Array (Option Value)} {oc24 kV24 dc24 pm24 cd24 ct24 : Value} {f25 : Addr} {od25 an25 : Option Addr} {sl25 : Array (Option Value)} {oc25 kV25 dc25 pm25 cd25 ct25 : Value} {f26 : Addr} {od26 an26 : Option Addr} {sl26 : Array (Option Value)} {oc26 kV26 dc26 pm26 cd26 ct26 : Value} {f27 : Addr} {od27 an27 : Option Addr} {sl27 : Array (Option Value)} {oc27 kV27 dc27 pm27 cd27 ct27 : Value} {f28 : Addr} {od28 an28 : Option Addr} {sl28 : Array (Option Value)} {oc28 kV28 dc28 pm28 cd28 ct28 : Value} {f29 : Addr} {od29 an29 : Option Addr} {sl29 : Array (Option Value)} {oc29 kV29 dc29 pm29 cd29 ct29 : Value} {f30 : Addr} {od30 an30 : Option Addr} {sl30 : Array (Option Value)} {oc30 kV30 dc30 pm30 cd30 ct30 : Value} {f31 : Addr} {od31 an31 : Option Addr} {sl31 : Array (Option Value)} {oc31 kV31 dc31 pm31 cd31 ct31 : Value} (X : K.In h) (Gn : h.Ns mainGlobals mg) (hfa : mg "law" = some (.ref fa))
    (z0 : PySem.W.nsIn K mainGlobals "len" = some none)
    (z1 : PySem.W.nsIn K mainGlobals "abs" = some none)
    (z2 : PySem.W.nsIn K mainGlobals "int" = some none)
    (z3 : PySem.W.nsIn K mainGlobals "list" = some none)
    (z4 : PySem.W.nsIn K mainGlobals "tuple" = some none)
    (z5 : PySem.W.nsIn K mainGlobals "sorted" = some none)
    (z6 : PySem.W.nsIn K mainGlobals "sum" = some none)
    (z7 : PySem.W.nsIn K mainGlobals "all" = some none)
    (z8 : PySem.W.nsIn K mainGlobals "any" = some none)
    (z9 : PySem.W.nsIn K mainGlobals "max" = some none)
    (z10 : PySem.W.nsIn K mainGlobals "min" = some none)
    (z11 : PySem.W.nsIn K mainGlobals "range" = some none)
    (z12 : PySem.W.nsIn K mainGlobals "enumerate" = some none)
    (z13 : PySem.W.nsIn K mainGlobals "zip" = some none)
    (z14 : PySem.W.nsIn K mainGlobals "set" = some none)
    (z15 : PySem.W.nsIn K mainGlobals "repr" = some none)
    (z16 : PySem.W.nsIn K mainGlobals "isinstance" = some none)
    (z17 : PySem.W.nsIn K mainGlobals "str" = some none)
    (z18 : PySem.W.nsIn K mainGlobals "super" = some none)
    (z19 : PySem.W.nsIn K mainGlobals "bool" = some none)
    (gc0 : PySem.W.nsIn K mainGlobals "MOST_STARS" = some (some (.int (20) tk0)))
    (aC4 : PySem.W.nsIn K mainGlobals "Sky" = some (some (.ref C4)))
    (pg4 : PySem.W.plainGet K C4 Str.empty = true)
    (hd4 : PySem.W.hasDictIn K C4 = true)
    (po4 : PySem.W.plainOver K C4 = true)
    (sa4 : PySem.W.findIn K (.ref C4) "__setattr__" = some (some (.builtin "object.__setattr__")))
    (mk4 : PySem.W.makesIn K C4 = true)
    (kc4 : PySem.W.keepIn K (.ref C4) = true)
    (nf0 : PySem.W.findIn K (.ref C4) "_camera" = some none)
    (nf1 : PySem.W.findIn K (.ref C4) "_side" = some none)
    (nf2 : PySem.W.findIn K (.ref C4) "_stars" = some none)
    (aC0 : PySem.W.nsIn K mainGlobals "SkyError" = some (some (.ref C0)))
    (aC1 : PySem.W.nsIn K mainGlobals "InvalidSky" = some (some (.ref C1)))
    (aC2 : PySem.W.nsIn K mainGlobals "InvalidAttitude" = some (some (.ref C2)))
    (aC3 : PySem.W.nsIn K mainGlobals "InvalidCommand" = some (some (.ref C3)))
    (xk2 : PySem.W.keepIn K (.ref C2) = true)
    (xs2 : PySem.W.subIn K (.ref C2) (.type "BaseException") = some true)
    (xt2 : PySem.W.typeIn K (.ref C2) = some (.type "type"))
    (xk3 : PySem.W.keepIn K (.ref C3) = true)
    (xs3 : PySem.W.subIn K (.ref C3) (.type "BaseException") = some true)
    (xt3 : PySem.W.typeIn K (.ref C3) = some (.type "type"))
    (xk1 : PySem.W.keepIn K (.ref C1) = true)
    (xs1 : PySem.W.subIn K (.ref C1) (.type "BaseException") = some true)
    (xt1 : PySem.W.typeIn K (.ref C1) = some (.type "type"))
    (xi1 : PySem.W.excIn K C1 [.type "ValueError", .type "Exception", .type "BaseException", .type "object"] "ValueError.__new__" = true)
    (xn2_attitude : PySem.W.findIn K (.ref C2) "attitude" = some none)
    (xn3_command : PySem.W.findIn K (.ref C3) "command" = some none)
    (ga2 : PySem.W.findIn K (.ref C2) "__getattribute__" = some (some (.builtin "BaseException.__getattribute__")))
    (gg2 : PySem.W.findIn K (.ref C2) "__getattr__" = some none)
    (xh2 : PySem.W.hasDictIn K C2 = true)
    (ga3 : PySem.W.findIn K (.ref C3) "__getattribute__" = some (some (.builtin "BaseException.__getattribute__")))
    (gg3 : PySem.W.findIn K (.ref C3) "__getattr__" = some none)
    (xh3 : PySem.W.hasDictIn K C3 = true)
    (opq : PySem.W.nsIn K PySem.cStatics "thirdparty.any" = some none)
    (xL2 : K.lookup C2 = some (excClassObj nm2 q2 C2 Nx2 bs2 bm2 true sn2 sub2 ab2 col2 dd2 m02 m12 m22 m32 m52 "ValueError.__new__"))
    (xr2 : PySem.HandSPX.refsVE bm2 = true)
    (xa2 : PySem.W.findIn K (.ref C2) "__setattr__" = some (some (.builtin "object.__setattr__")))
    (xf2 : PySem.W.findIn K (.ref C2) "__init__" = some (some (.ref fI2)))
    (xy2 : PySem.W.typeIn K (.ref fI2) = some (.type "function"))
    (xl2 : K.lookup fI2 = some ⟨xoc2, xod2, .func (PySem.W.ksFn "__init__" "InvalidAttitude.__init__" (defArgs x_InvalidAttitude) (defBody x_InvalidAttitude) (defScope x_InvalidAttitude) .none xkV2 xdc2 xpm2 xan2 (.ref cda2) xct2 cc2), xsl2⟩)
    (xc2 : PySem.W.codeIn K (.ref cda2) "InvalidAttitude.__init__" = true)
    (xd2 : K.lookup cda2 = some ⟨ccl2, cdd2, .fields vs2, ccs2⟩)
    (xv2 : vs2[2]? = some (.str file2 tf2))
    (xw2 : ((l.prog.main.file : Str) == file2) = true)
    (xe2 : K.lookup cc2 = some ⟨cl2, cld2, .cell (some (.ref C2)), csl2⟩)
    (xm2 : PySem.W.mroIn K C2 (.ref C2) = some true)
    (xp2 : PySem.W.ks_superIn K C2 C2 "__init__" = some (some (.builtin "ValueError.__init__")))
    (xu2 : PySem.W.subIn K (.ref C2) (.type "ValueError") = some true)
    (xL3 : K.lookup C3 = some (excClassObj nm3 q3 C3 Nx3 bs3 bm3 true sn3 sub3 ab3 col3 dd3 m03 m13 m23 m33 m53 "ValueError.__new__"))
    (xr3 : PySem.HandSPX.refsVE bm3 = true)
    (xa3 : PySem.W.findIn K (.ref C3) "__setattr__" = some (some (.builtin "object.__setattr__")))
    (xf3 : PySem.W.findIn K (.ref C3) "__init__" = some (some (.ref fI3)))
    (xy3 : PySem.W.typeIn K (.ref fI3) = some (.type "function"))
    (xl3 : K.lookup fI3 = some ⟨xoc3, xod3, .func (PySem.W.ksFn "__init__" "InvalidCommand.__init__" (defArgs x_InvalidCommand) (defBody x_InvalidCommand) (defScope x_InvalidCommand) .none xkV3 xdc3 xpm3 xan3 (.ref cda3) xct3 cc3), xsl3⟩)
    (xc3 : PySem.W.codeIn K (.ref cda3) "InvalidCommand.__init__" = true)
    (xd3 : K.lookup cda3 = some ⟨ccl3, cdd3, .fields vs3, ccs3⟩)
    (xv3 : vs3[2]? = some (.str file3 tf3))
    (xw3 : ((l.prog.main.file : Str) == file3) = true)
    (xe3 : K.lookup cc3 = some ⟨cl3, cld3, .cell (some (.ref C3)), csl3⟩)
    (xm3 : PySem.W.mroIn K C3 (.ref C3) = some true)
    (xp3 : PySem.W.ks_superIn K C3 C3 "__init__" = some (some (.builtin "ValueError.__init__")))
    (xu3 : PySem.W.subIn K (.ref C3) (.type "ValueError") = some true)
    (tsu : (l.prog.main.scope.names.lookup ("super" : Str)).isSome = false)
    (xg2 : PySem.W.isClsIn K C2 = true)
    (su_InvalidAttitude_0 : PySem.W.subIn K (.ref C0) (.ref C2) = some false)
    (su_InvalidAttitude_1 : PySem.W.subIn K (.ref C1) (.ref C2) = some false)
    (su_InvalidAttitude_2 : PySem.W.subIn K (.ref C2) (.ref C2) = some true)
    (su_InvalidAttitude_3 : PySem.W.subIn K (.ref C3) (.ref C2) = some false)
    (xg3 : PySem.W.isClsIn K C3 = true)
    (su_InvalidCommand_0 : PySem.W.subIn K (.ref C0) (.ref C3) = some false)
    (su_InvalidCommand_1 : PySem.W.subIn K (.ref C1) (.ref C3) = some false)
    (su_InvalidCommand_2 : PySem.W.subIn K (.ref C2) (.ref C3) = some false)
    (su_InvalidCommand_3 : PySem.W.subIn K (.ref C3) (.ref C3) = some true)
    (a0 : PySem.W.nsIn K mainGlobals "_law_row" = some (some (.ref f0)))
    (l0 : K.lookup f0 = some ⟨oc0, od0, .func (PySem.W.fnOf "_law_row" "_law_row" (defArgs s__law_row) (defBody s__law_row) (defScope s__law_row) .none kV0 dc0 pm0 an0 cd0 ct0), sl0⟩)
    (c0 : PySem.W.codeIn K cd0 "_law_row" = true)
    (k0 : PySem.W.keepIn K (.ref f0) = true)
    (a1 : PySem.W.nsIn K mainGlobals "_law_numbers" = some (some (.ref f1)))
    (l1 : K.lookup f1 = some ⟨oc1, od1, .func (PySem.W.fnOf "_law_numbers" "_law_numbers" (defArgs s__law_numbers) (defBody s__law_numbers) (defScope s__law_numbers) .none kV1 dc1 pm1 an1 cd1 ct1), sl1⟩)
    (c1 : PySem.W.codeIn K cd1 "_law_numbers" = true)
    (k1 : PySem.W.keepIn K (.ref f1) = true)
    (a2 : PySem.W.nsIn K mainGlobals "_law_motion" = some (some (.ref f2)))
    (l2 : K.lookup f2 = some ⟨oc2, od2, .func (PySem.W.fnOf "_law_motion" "_law_motion" (defArgs s__law_motion) (defBody s__law_motion) (defScope s__law_motion) .none kV2 dc2 pm2 an2 cd2 ct2), sl2⟩)
    (c2 : PySem.W.codeIn K cd2 "_law_motion" = true)
    (k2 : PySem.W.keepIn K (.ref f2) = true)
    (a3 : PySem.W.nsIn K mainGlobals "_law_turned" = some (some (.ref f3)))
    (l3 : K.lookup f3 = some ⟨oc3, od3, .func (PySem.W.fnOf "_law_turned" "_law_turned" (defArgs s__law_turned) (defBody s__law_turned) (defScope s__law_turned) .none kV3 dc3 pm3 an3 cd3 ct3), sl3⟩)
    (c3 : PySem.W.codeIn K cd3 "_law_turned" = true)
    (k3 : PySem.W.keepIn K (.ref f3) = true)
    (a4 : PySem.W.nsIn K mainGlobals "_law_star" = some (some (.ref f4)))
    (l4 : K.lookup f4 = some ⟨oc4, od4, .func (PySem.W.fnOf "_law_star" "_law_star" (defArgs s__law_star) (defBody s__law_star) (defScope s__law_star) .none kV4 dc4 pm4 an4 cd4 ct4), sl4⟩)
    (c4 : PySem.W.codeIn K cd4 "_law_star" = true)
    (k4 : PySem.W.keepIn K (.ref f4) = true)
    (a5 : PySem.W.nsIn K mainGlobals "_law_sky" = some (some (.ref f5)))
    (l5 : K.lookup f5 = some ⟨oc5, od5, .func (PySem.W.fnOf "_law_sky" "_law_sky" (defArgs s__law_sky) (defBody s__law_sky) (defScope s__law_sky) .none kV5 dc5 pm5 an5 cd5 ct5), sl5⟩)
    (c5 : PySem.W.codeIn K cd5 "_law_sky" = true)
    (k5 : PySem.W.keepIn K (.ref f5) = true)
    (a6 : PySem.W.nsIn K mainGlobals "is_camera" = some (some (.ref f6)))
    (l6 : K.lookup f6 = some ⟨oc6, od6, .func (PySem.W.fnOf "is_camera" "is_camera" (defArgs s_is_camera) (defBody s_is_camera) (defScope s_is_camera) .none kV6 dc6 pm6 an6 cd6 ct6), sl6⟩)
    (c6 : PySem.W.codeIn K cd6 "is_camera" = true)
    (k6 : PySem.W.keepIn K (.ref f6) = true)
    (a7 : PySem.W.nsIn K mainGlobals "is_star" = some (some (.ref f7)))
    (l7 : K.lookup f7 = some ⟨oc7, od7, .func (PySem.W.fnOf "is_star" "is_star" (defArgs s_is_star) (defBody s_is_star) (defScope s_is_star) .none kV7 dc7 pm7 an7 cd7 ct7), sl7⟩)
    (c7 : PySem.W.codeIn K cd7 "is_star" = true)
    (k7 : PySem.W.keepIn K (.ref f7) = true)
    (a8 : PySem.W.findIn K (.ref C4) "__init__" = some (some (.ref f8)))
    (i8 : PySem.W.isFn K (.ref f8) = true)
    (l8 : K.lookup f8 = some ⟨oc8, od8, .func (PySem.W.fnOf "__init__" "Sky.__init__" (defArgs s_Sky___init__) (defBody s_Sky___init__) (defScope s_Sky___init__) .none kV8 dc8 pm8 an8 cd8 ct8), sl8⟩)
    (c8 : PySem.W.codeIn K cd8 "Sky.__init__" = true)
    (k8 : PySem.W.keepIn K (.ref f8) = true)
    (a9 : PySem.W.nsIn K mainGlobals "_law_made" = some (some (.ref f9)))
    (l9 : K.lookup f9 = some ⟨oc9, od9, .func (PySem.W.fnOf "_law_made" "_law_made" (defArgs s__law_made) (defBody s__law_made) (defScope s__law_made) .none kV9 dc9 pm9 an9 cd9 ct9), sl9⟩)
    (c9 : PySem.W.codeIn K cd9 "_law_made" = true)
    (k9 : PySem.W.keepIn K (.ref f9) = true)
    (a10 : PySem.W.nsIn K mainGlobals "_law_attitude" = some (some (.ref f10)))
    (l10 : K.lookup f10 = some ⟨oc10, od10, .func (PySem.W.fnOf "_law_attitude" "_law_attitude" (defArgs s__law_attitude) (defBody s__law_attitude) (defScope s__law_attitude) .none kV10 dc10 pm10 an10 cd10 ct10), sl10⟩)
    (c10 : PySem.W.codeIn K cd10 "_law_attitude" = true)
    (k10 : PySem.W.keepIn K (.ref f10) = true)
    (a11 : PySem.W.nsIn K mainGlobals "_law_command" = some (some (.ref f11)))
    (l11 : K.lookup f11 = some ⟨oc11, od11, .func (PySem.W.fnOf "_law_command" "_law_command" (defArgs s__law_command) (defBody s__law_command) (defScope s__law_command) .none kV11 dc11 pm11 an11 cd11 ct11), sl11⟩)
    (c11 : PySem.W.codeIn K cd11 "_law_command" = true)
    (k11 : PySem.W.keepIn K (.ref f11) = true)
    (a12 : PySem.W.nsIn K mainGlobals "_law_commands" = some (some (.ref f12)))
    (l12 : K.lookup f12 = some ⟨oc12, od12, .func (PySem.W.fnOf "_law_commands" "_law_commands" (defArgs s__law_commands) (defBody s__law_commands) (defScope s__law_commands) .none kV12 dc12 pm12 an12 cd12 ct12), sl12⟩)
    (c12 : PySem.W.codeIn K cd12 "_law_commands" = true)
    (k12 : PySem.W.keepIn K (.ref f12) = true)
    (a13 : PySem.W.nsIn K mainGlobals "is_motion" = some (some (.ref f13)))
    (l13 : K.lookup f13 = some ⟨oc13, od13, .func (PySem.W.fnOf "is_motion" "is_motion" (defArgs s_is_motion) (defBody s_is_motion) (defScope s_is_motion) .none kV13 dc13 pm13 an13 cd13 ct13), sl13⟩)
    (c13 : PySem.W.codeIn K cd13 "is_motion" = true)
    (k13 : PySem.W.keepIn K (.ref f13) = true)
    (a14 : PySem.W.findIn K (.ref C4) "side" = some (some (.ref p14)))
    (pa14 : PySem.W.specialIn K (.ref p14) "__get__" = some (some (.builtin "property.__get__")))
    (pb14 : PySem.W.takesIn K (.ref p14) = some true)
    (pc14 : PySem.W.recIn K p14 "property" = some (.ref f14 :: rs14))
    (l14 : K.lookup f14 = some ⟨oc14, od14, .func (PySem.W.fnOf "side" "Sky.side" (defArgs s_Sky_side) (defBody s_Sky_side) (defScope s_Sky_side) .none kV14 dc14 pm14 an14 cd14 ct14), sl14⟩)
    (c14 : PySem.W.codeIn K cd14 "Sky.side" = true)
    (k14 : PySem.W.keepIn K (.ref f14) = true)
    (a15 : PySem.W.nsIn K mainGlobals "check_attitude" = some (some (.ref f15)))
    (l15 : K.lookup f15 = some ⟨oc15, od15, .func (PySem.W.fnOf "check_attitude" "check_attitude" (defArgs s_check_attitude) (defBody s_check_attitude) (defScope s_check_attitude) .none kV15 dc15 pm15 an15 cd15 ct15), sl15⟩)
    (c15 : PySem.W.codeIn K cd15 "check_attitude" = true)
    (k15 : PySem.W.keepIn K (.ref f15) = true)
    (a16 : PySem.W.nsIn K mainGlobals "check_command" = some (some (.ref f16)))
    (l16 : K.lookup f16 = some ⟨oc16, od16, .func (PySem.W.fnOf "check_command" "check_command" (defArgs s_check_command) (defBody s_check_command) (defScope s_check_command) .none kV16 dc16 pm16 an16 cd16 ct16), sl16⟩)
    (c16 : PySem.W.codeIn K cd16 "check_command" = true)
    (k16 : PySem.W.keepIn K (.ref f16) = true)
    (a17 : PySem.W.nsIn K mainGlobals "check_commands_rows" = some (some (.ref f17)))
    (l17 : K.lookup f17 = some ⟨oc17, od17, .func (PySem.W.fnOf "check_commands" "check_commands" (defArgs s_check_commands_rows) (defBody s_check_commands_rows) (defScope s_check_commands_rows) .none kV17 dc17 pm17 an17 cd17 ct17), sl17⟩)
    (c17 : PySem.W.codeIn K cd17 "check_commands" = true)
    (k17 : PySem.W.keepIn K (.ref f17) = true)
    (a18 : PySem.W.nsIn K mainGlobals "turned" = some (some (.ref f18)))
    (l18 : K.lookup f18 = some ⟨oc18, od18, .func (PySem.W.fnOf "turned" "turned" (defArgs s_turned) (defBody s_turned) (defScope s_turned) .none kV18 dc18 pm18 an18 cd18 ct18), sl18⟩)
    (c18 : PySem.W.codeIn K cd18 "turned" = true)
    (k18 : PySem.W.keepIn K (.ref f18) = true)
    (a19 : PySem.W.nsIn K mainGlobals "commanded" = some (some (.ref f19)))
    (l19 : K.lookup f19 = some ⟨oc19, od19, .func (PySem.W.fnOf "commanded" "commanded" (defArgs s_commanded) (defBody s_commanded) (defScope s_commanded) .none kV19 dc19 pm19 an19 cd19 ct19), sl19⟩)
    (c19 : PySem.W.codeIn K cd19 "commanded" = true)
    (k19 : PySem.W.keepIn K (.ref f19) = true)
    (a20 : PySem.W.nsIn K mainGlobals "course" = some (some (.ref f20)))
    (l20 : K.lookup f20 = some ⟨oc20, od20, .func (PySem.W.fnOf "course" "course" (defArgs s_course) (defBody s_course) (defScope s_course) .none kV20 dc20 pm20 an20 cd20 ct20), sl20⟩)
    (c20 : PySem.W.codeIn K cd20 "course" = true)
    (k20 : PySem.W.keepIn K (.ref f20) = true)
    (a21 : PySem.W.nsIn K mainGlobals "as_one" = some (some (.ref f21)))
    (l21 : K.lookup f21 = some ⟨oc21, od21, .func (PySem.W.fnOf "as_one" "as_one" (defArgs s_as_one) (defBody s_as_one) (defScope s_as_one) .none kV21 dc21 pm21 an21 cd21 ct21), sl21⟩)
    (c21 : PySem.W.codeIn K cd21 "as_one" = true)
    (k21 : PySem.W.keepIn K (.ref f21) = true)
    (a22 : PySem.W.nsIn K mainGlobals "_law_commanded" = some (some (.ref f22)))
    (l22 : K.lookup f22 = some ⟨oc22, od22, .func (PySem.W.fnOf "_law_commanded" "_law_commanded" (defArgs s__law_commanded) (defBody s__law_commanded) (defScope s__law_commanded) .none kV22 dc22 pm22 an22 cd22 ct22), sl22⟩)
    (c22 : PySem.W.codeIn K cd22 "_law_commanded" = true)
    (k22 : PySem.W.keepIn K (.ref f22) = true)
    (a23 : PySem.W.nsIn K mainGlobals "_law_course" = some (some (.ref f23)))
    (l23 : K.lookup f23 = some ⟨oc23, od23, .func (PySem.W.fnOf "_law_course" "_law_course" (defArgs s__law_course) (defBody s__law_course) (defScope s__law_course) .none kV23 dc23 pm23 an23 cd23 ct23), sl23⟩)
    (c23 : PySem.W.codeIn K cd23 "_law_course" = true)
    (k23 : PySem.W.keepIn K (.ref f23) = true)
    (a24 : PySem.W.nsIn K mainGlobals "_law_rows" = some (some (.ref f24)))
    (l24 : K.lookup f24 = some ⟨oc24, od24, .func (PySem.W.fnOf "_law_rows" "_law_rows" (defArgs s__law_rows) (defBody s__law_rows) (defScope s__law_rows) .none kV24 dc24 pm24 an24 cd24 ct24), sl24⟩)
    (c24 : PySem.W.codeIn K cd24 "_law_rows" = true)
    (k24 : PySem.W.keepIn K (.ref f24) = true)
    (a25 : PySem.W.nsIn K mainGlobals "check_commands_turns" = some (some (.ref f25)))
    (l25 : K.lookup f25 = some ⟨oc25, od25, .func (PySem.W.fnOf "check_commands" "check_commands" (defArgs s_check_commands_turns) (defBody s_check_commands_turns) (defScope s_check_commands_turns) .none kV25 dc25 pm25 an25 cd25 ct25), sl25⟩)
    (c25 : PySem.W.codeIn K cd25 "check_commands" = true)
    (k25 : PySem.W.keepIn K (.ref f25) = true)
    (a26 : PySem.W.nsIn K mainGlobals "ways_from" = some (some (.ref f26)))
    (l26 : K.lookup f26 = some ⟨oc26, od26, .func (PySem.W.fnOf "ways_from" "ways_from" (defArgs s_ways_from) (defBody s_ways_from) (defScope s_ways_from) .none kV26 dc26 pm26 an26 cd26 ct26), sl26⟩)
    (c26 : PySem.W.codeIn K cd26 "ways_from" = true)
    (k26 : PySem.W.keepIn K (.ref f26) = true)
    (a27 : PySem.W.nsIn K mainGlobals "reached" = some (some (.ref f27)))
    (l27 : K.lookup f27 = some ⟨oc27, od27, .func (PySem.W.fnOf "reached" "reached" (defArgs s_reached) (defBody s_reached) (defScope s_reached) .none kV27 dc27 pm27 an27 cd27 ct27), sl27⟩)
    (c27 : PySem.W.codeIn K cd27 "reached" = true)
    (k27 : PySem.W.keepIn K (.ref f27) = true)
    (a28 : PySem.W.nsIn K mainGlobals "row_along" = some (some (.ref f28)))
    (l28 : K.lookup f28 = some ⟨oc28, od28, .func (PySem.W.fnOf "row_along" "row_along" (defArgs s_row_along) (defBody s_row_along) (defScope s_row_along) .none kV28 dc28 pm28 an28 cd28 ct28), sl28⟩)
    (c28 : PySem.W.codeIn K cd28 "row_along" = true)
    (k28 : PySem.W.keepIn K (.ref f28) = true)
    (a29 : PySem.W.nsIn K mainGlobals "row_to" = some (some (.ref f29)))
    (l29 : K.lookup f29 = some ⟨oc29, od29, .func (PySem.W.fnOf "row_to" "row_to" (defArgs s_row_to) (defBody s_row_to) (defScope s_row_to) .none kV29 dc29 pm29 an29 cd29 ct29), sl29⟩)
    (c29 : PySem.W.codeIn K cd29 "row_to" = true)
    (k29 : PySem.W.keepIn K (.ref f29) = true)
    (a30 : PySem.W.nsIn K mainGlobals "_law_told" = some (some (.ref f30)))
    (l30 : K.lookup f30 = some ⟨oc30, od30, .func (PySem.W.fnOf "_law_told" "_law_told" (defArgs s__law_told) (defBody s__law_told) (defScope s__law_told) .none kV30 dc30 pm30 an30 cd30 ct30), sl30⟩)
    (c30 : PySem.W.codeIn K cd30 "_law_told" = true)
    (k30 : PySem.W.keepIn K (.ref f30) = true)
    (a31 : PySem.W.nsIn K mainGlobals "law" = some (some (.ref f31)))
    (l31 : K.lookup f31 = some ⟨oc31, od31, .func (PySem.W.fnOf "law" "law" (defArgs s_law) (defBody s_law) (defScope s_law) .none kV31 dc31 pm31 an31 cd31 ct31), sl31⟩)
    (c31 : PySem.W.codeIn K cd31 "law" = true)
    (k31 : PySem.W.keepIn K (.ref f31) = true)
    (hpure : ∀ ns : List Int, ns.length ≤ 63 → F_law [.scr (ns.map M.D.int)] = .ok (.bl true)) :
    ∃ fd : FuncData, (∀ (s : Shared) (v : Value), BindsTo s fd ⟨[v], []⟩ [("_law_script", v)]) ∧ ∀ base : Heap, K.In base → base.Ns mainGlobals mg → FnOk l.prog w K mg base (L2.CX l.prog w) 8 fa fd P_law (M.spLaw K) := by
  have e := hfa.symm.trans (PySem.W.mg_of X Gn a31)
  cases e
  refine ⟨PySem.W.fnOf "law" "law" (defArgs s_law) (defBody s_law) (defScope s_law) .none kV31 dc31 pm31 an31 cd31 ct31, fun s v => .of_eq rfl, fun base _ _ => ?_⟩
  let G : Glob := ⟨l.prog, w, K, mg, base⟩
  have bi : ∀ n ∈ biNames, G.mg n = none := by
    intro n hn
    simp only [biNames, List.mem_cons, List.not_mem_nil, or_false] at hn
    rcases hn with rfl | rfl | rfl | rfl | rfl | rfl | rfl | rfl | rfl | rfl | rfl | rfl | rfl | rfl | rfl | rfl | rfl | rfl | rfl | rfl
    · exact PySem.W.mg_none_of X Gn z0
    · exact PySem.W.mg_none_of X Gn z1
    · exact PySem.W.mg_none_of X Gn z2
    · exact PySem.W.mg_none_of X Gn z3
    · exact PySem.W.mg_none_of X Gn z4
    · exact PySem.W.mg_none_of X Gn z5
    · exact PySem.W.mg_none_of X Gn z6
    · exact PySem.W.mg_none_of X Gn z7
    · exact PySem.W.mg_none_of X Gn z8
    · exact PySem.W.mg_none_of X Gn z9
    · exact PySem.W.mg_none_of X Gn z10
    · exact PySem.W.mg_none_of X Gn z11
    · exact PySem.W.mg_none_of X Gn z12
    · exact PySem.W.mg_none_of X Gn z13
    · exact PySem.W.mg_none_of X Gn z14
    · exact PySem.W.mg_none_of X Gn z15
    · exact PySem.W.mg_none_of X Gn z16
    · exact PySem.W.mg_none_of X Gn z17
    · exact PySem.W.mg_none_of X Gn z18
    · exact PySem.W.mg_none_of X Gn z19
  have G_MOST_STARS : GlobOk G "MOST_STARS" c_MOST_STARS := ⟨⟨_, V.int (20), PySem.W.mg_of X Gn gc0, ⟨_, rfl⟩, fun P => by simp only [c_MOST_STARS, Rep]⟩⟩
  have cl4_ : Cls G.K C4 := ⟨pg4, hd4, po4, sa4⟩
  have fo0 : FldOk G "Sky" "_camera" := ⟨⟨C4, PySem.W.mg_of X Gn aC4, cl4_, nf0⟩⟩
  have fo1 : FldOk G "Sky" "_side" := ⟨⟨C4, PySem.W.mg_of X Gn aC4, cl4_, nf1⟩⟩
  have fo2 : FldOk G "Sky" "_stars" := ⟨⟨C4, PySem.W.mg_of X Gn aC4, cl4_, nf2⟩⟩
  have rz1 : R0Ok G "InvalidSky" := ⟨⟨C1, PySem.W.mg_of X Gn aC1, xi1, xk1, xs1, xt1⟩⟩
  have ro2 : ∀ lv, 1 ≤ lv → R1Ok G lv "InvalidAttitude" "attitude" := fun lv hlv => r1_ok hlv (PySem.W.mg_of X Gn aC2) { ox := ⟨⟨_, _, _, _, _, _, _, _, _, _, _, _, _, _, _, xL2, xr2⟩, xa2, xs2, xt2, xk2⟩, hd := ⟨_, (by unfold PySem.W.clsIn; rw [xL2])⟩, ini := xf2, fty := xy2, no := xn2_attitude, fn := ⟨_, _, _, _, _, _, _, _, _, xl2, xc2⟩, code := ⟨_, _, _, _, _, _, xd2, xv2, xw2⟩, cell := ⟨_, _, _, xe2⟩, sub := xm2, opq := opq, sup := xp2, ve := xu2, top := tsu } xt_InvalidAttitude
  have ro3 : ∀ lv, 1 ≤ lv → R1Ok G lv "InvalidCommand" "command" := fun lv hlv => r1_ok hlv (PySem.W.mg_of X Gn aC3) { ox := ⟨⟨_, _, _, _, _, _, _, _, _, _, _, _, _, _, _, xL3, xr3⟩, xa3, xs3, xt3, xk3⟩, hd := ⟨_, (by unfold PySem.W.clsIn; rw [xL3])⟩, ini := xf3, fty := xy3, no := xn3_command, fn := ⟨_, _, _, _, _, _, _, _, _, xl3, xc3⟩, code := ⟨_, _, _, _, _, _, xd3, xv3, xw3⟩, cell := ⟨_, _, _, xe3⟩, sub := xm3, opq := opq, sup := xp3, ve := xu3, top := tsu } xt_InvalidCommand
  have xo2_attitude : XatOk G "InvalidAttitude" "attitude" := ⟨⟨C2, PySem.W.mg_of X Gn aC2, ⟨ga2, gg2, xs2, xh2⟩, xn2_attitude⟩⟩
  have xo3_command : XatOk G "InvalidCommand" "command" := ⟨⟨C3, PySem.W.mg_of X Gn aC3, ⟨ga3, gg3, xs3, xh3⟩, xn3_command⟩⟩
  have ho_InvalidAttitude : HdOk G ["SkyError", "InvalidSky", "InvalidAttitude", "InvalidCommand"] "InvalidAttitude" ["InvalidAttitude"] (.ref C2) := by
    refine ⟨.inl (PySem.W.mg_of X Gn aC2), fun c hc => ?_⟩
    simp only [List.mem_cons, List.not_mem_nil, or_false] at hc
    rcases hc with rfl | rfl | rfl | rfl
    · exact ⟨_, PySem.W.mg_of X Gn aC0, exm_of xs2 xg2 xt2 su_InvalidAttitude_0⟩
    · exact ⟨_, PySem.W.mg_of X Gn aC1, exm_of xs2 xg2 xt2 su_InvalidAttitude_1⟩
    · exact ⟨_, PySem.W.mg_of X Gn aC2, exm_of xs2 xg2 xt2 su_InvalidAttitude_2⟩
    · exact ⟨_, PySem.W.mg_of X Gn aC3, exm_of xs2 xg2 xt2 su_InvalidAttitude_3⟩
  have ho_InvalidCommand : HdOk G ["SkyError", "InvalidSky", "InvalidAttitude", "InvalidCommand"] "InvalidCommand" ["InvalidCommand"] (.ref C3) := by
    refine ⟨.inl (PySem.W.mg_of X Gn aC3), fun c hc => ?_⟩
    simp only [List.mem_cons, List.not_mem_nil, or_false] at hc
    rcases hc with rfl | rfl | rfl | rfl
    · exact ⟨_, PySem.W.mg_of X Gn aC0, exm_of xs3 xg3 xt3 su_InvalidCommand_0⟩
    · exact ⟨_, PySem.W.mg_of X Gn aC1, exm_of xs3 xg3 xt3 su_InvalidCommand_1⟩
    · exact ⟨_, PySem.W.mg_of X Gn aC2, exm_of xs3 xg3 xt3 su_InvalidCommand_2⟩
    · exact ⟨_, PySem.W.mg_of X Gn aC3, exm_of xs3 xg3 xt3 su_InvalidCommand_3⟩
  have rq0 : reqSs G 0 ir__law_row := by
    simp only [ir__law_row, b0__law_row, reqSs, reqS, reqE, reqEs, reqQ, reqQs, reqO, reqI, reqHs, lenEs, List.map_cons, List.map_nil, true_and, and_true, and_self]
  have Fn0 := fun_mk (st := s__law_row) l0 c0 k0
  have bd0 := Fn0.binds (ps := P__law_row) fun _ _ _ _ _ _ us hl => match us, hl with | [_, _], _ => rfl
  have FO0 : FnOk G.P G.w G.K G.mg G.base (L2.CX G.P G.w) 1 f0 _ P__law_row (spD G 2 F__law_row) := fnD 100000 6 Fn0 bi rfl ok__law_row rq0
  have C__law_row : ∀ lv, 1 ≤ lv → CallOk G lv "_law_row" 2 F__law_row := fun lv hl => ⟨⟨1, f0, _, P__law_row, hl, FO0, PySem.W.mg_of X Gn a0, k0, bd0⟩⟩
  have rq1 : reqSs G 1 ir__law_numbers := by
    have q0 := C__law_row 1 (by decide)
    simp only [ir__law_numbers, b0__law_numbers, b1__law_numbers, t2__law_numbers, b3__law_numbers, reqSs, reqS, reqE, reqEs, reqQ, reqQs, reqO, reqI, reqHs, lenEs, List.map_cons, List.map_nil, true_and, and_true, and_self, q0]
  have Fn1 := fun_mk (st := s__law_numbers) l1 c1 k1
  have bd1 := Fn1.binds (ps := P__law_numbers) fun _ _ _ _ _ _ us hl => match us, hl with | [_, _], _ => rfl
  have FO1 : FnOk G.P G.w G.K G.mg G.base (L2.CX G.P G.w) 2 f1 _ P__law_numbers (spD G 2 F__law_numbers) := fnD 100000 7 Fn1 bi rfl ok__law_numbers rq1
  have C__law_numbers : ∀ lv, 2 ≤ lv → CallOk G lv "_law_numbers" 2 F__law_numbers := fun lv hl => ⟨⟨2, f1, _, P__law_numbers, hl, FO1, PySem.W.mg_of X Gn a1, k1, bd1⟩⟩
  have rq2 : reqSs G 0 ir__law_motion := by
    simp only [ir__law_motion, reqSs, reqS, reqE, reqEs, reqQ, reqQs, reqO, reqI, reqHs, lenEs, List.map_cons, List.map_nil, true_and, and_true, and_self]
  have Fn2 := fun_mk (st := s__law_motion) l2 c2 k2
  have bd2 := Fn2.binds (ps := P__law_motion) fun _ _ _ _ _ _ us hl => match us, hl with | [_, _, _], _ => rfl
  have FO2 : FnOk G.P G.w G.K G.mg G.base (L2.CX G.P G.w) 1 f2 _ P__law_motion (spD G 3 F__law_motion) := fnD 100000 3 Fn2 bi rfl ok__law_motion rq2
  have C__law_motion : ∀ lv, 1 ≤ lv → CallOk G lv "_law_motion" 3 F__law_motion := fun lv hl => ⟨⟨1, f2, _, P__law_motion, hl, FO2, PySem.W.mg_of X Gn a2, k2, bd2⟩⟩
  have rq3 : reqSs G 0 ir__law_turned := by
    simp only [ir__law_turned, b0__law_turned, reqSs, reqS, reqE, reqEs, reqQ, reqQs, reqO, reqI, reqHs, lenEs, List.map_cons, List.map_nil, true_and, and_true, and_self]
  have Fn3 := fun_mk (st := s__law_turned) l3 c3 k3
  have bd3 := Fn3.binds (ps := P__law_turned) fun _ _ _ _ _ _ us hl => match us, hl with | [_, _, _], _ => rfl
  have FO3 : FnOk G.P G.w G.K G.mg G.base (L2.CX G.P G.w) 1 f3 _ P__law_turned (spD G 3 F__law_turned) := fnD 100000 4 Fn3 bi rfl ok__law_turned rq3
  have C__law_turned : ∀ lv, 1 ≤ lv → CallOk G lv "_law_turned" 3 F__law_turned := fun lv hl => ⟨⟨1, f3, _, P__law_turned, hl, FO3, PySem.W.mg_of X Gn a3, k3, bd3⟩⟩
  have rq4 : reqSs G 1 ir__law_star := by
    have q0 := C__law_turned 1 (by decide)
    simp only [ir__law_star, reqSs, reqS, reqE, reqEs, reqQ, reqQs, reqO, reqI, reqHs, lenEs, List.map_cons, List.map_nil, true_and, and_true, and_self, q0]
  have Fn4 := fun_mk (st := s__law_star) l4 c4 k4
  have bd4 := Fn4.binds (ps := P__law_star) fun _ _ _ _ _ _ us hl => match us, hl with | [_, _, _], _ => rfl
  have FO4 : FnOk G.P G.w G.K G.mg G.base (L2.CX G.P G.w) 2 f4 _ P__law_star (spD G 3 F__law_star) := fnD 100000 5 Fn4 bi rfl ok__law_star rq4
  have C__law_star : ∀ lv, 2 ≤ lv → CallOk G lv "_law_star" 3 F__law_star := fun lv hl => ⟨⟨2, f4, _, P__law_star, hl, FO4, PySem.W.mg_of X Gn a4, k4, bd4⟩⟩
  have rq5 : reqSs G 2 ir__law_sky := by
    have q0 := C__law_motion 2 (by decide)
    have q1 := C__law_star 2 (by decide)
    simp only [ir__law_sky, b0__law_sky, b1__law_sky, reqSs, reqS, reqE, reqEs, reqQ, reqQs, reqO, reqI, reqHs, lenEs, List.map_cons, List.map_nil, true_and, and_true, and_self, q0, q1]
  have Fn5 := fun_mk (st := s__law_sky) l5 c5 k5
  have bd5 := Fn5.binds (ps := P__law_sky) fun _ _ _ _ _ _ us hl => match us, hl with | [_, _, _, _], _ => rfl
  have FO5 : FnOk G.P G.w G.K G.mg G.base (L2.CX G.P G.w) 3 f5 _ P__law_sky (spD G 4 F__law_sky) := fnD 100000 14 Fn5 bi rfl ok__law_sky rq5
  have C__law_sky : ∀ lv, 3 ≤ lv → CallOk G lv "_law_sky" 4 F__law_sky := fun lv hl => ⟨⟨3, f5, _, P__law_sky, hl, FO5, PySem.W.mg_of X Gn a5, k5, bd5⟩⟩
  have rq6 : reqSs G 0 ir_is_camera := by
    simp only [ir_is_camera, reqSs, reqS, reqE, reqEs, reqQ, reqQs, reqO, reqI, reqHs, lenEs, List.map_cons, List.map_nil, true_and, and_true, and_self]
  have Fn6 := fun_mk (st := s_is_camera) l6 c6 k6
  have bd6 := Fn6.binds (ps := P_is_camera) fun _ _ _ _ _ _ us hl => match us, hl with | [_, _], _ => rfl
  have FO6 : FnOk G.P G.w G.K G.mg G.base (L2.CX G.P G.w) 1 f6 _ P_is_camera (spD G 2 F_is_camera) := fnD 100000 6 Fn6 bi rfl ok_is_camera rq6
  have C_is_camera : ∀ lv, 1 ≤ lv → CallOk G lv "is_camera" 2 F_is_camera := fun lv hl => ⟨⟨1, f6, _, P_is_camera, hl, FO6, PySem.W.mg_of X Gn a6, k6, bd6⟩⟩
  have rq7 : reqSs G 0 ir_is_star := by
    simp only [ir_is_star, reqSs, reqS, reqE, reqEs, reqQ, reqQs, reqO, reqI, reqHs, lenEs, List.map_cons, List.map_nil, true_and, and_true, and_self]
  have Fn7 := fun_mk (st := s_is_star) l7 c7 k7
  have bd7 := Fn7.binds (ps := P_is_star) fun _ _ _ _ _ _ us hl => match us, hl with | [_, _], _ => rfl
  have FO7 : FnOk G.P G.w G.K G.mg G.base (L2.CX G.P G.w) 1 f7 _ P_is_star (spD G 2 F_is_star) := fnD 100000 2 Fn7 bi rfl ok_is_star rq7
  have C_is_star : ∀ lv, 1 ≤ lv → CallOk G lv "is_star" 2 F_is_star := fun lv hl => ⟨⟨1, f7, _, P_is_star, hl, FO7, PySem.W.mg_of X Gn a7, k7, bd7⟩⟩
  have rq8 : reqSs G 1 ir_Sky___init__ := by
    have q0 := C_is_camera 1 (by decide)
    have q1 := rz1
    have q2 := C_is_star 1 (by decide)
    have q3 := fo1
    have q4 := fo2
    have q5 := fo0
    have q6 := G_MOST_STARS
    simp only [ir_Sky___init__, e0_Sky___init__, reqSs, reqS, reqE, reqEs, reqQ, reqQs, reqO, reqI, reqHs, lenEs, List.map_cons, List.map_nil, true_and, and_true, and_self, q0, q1, q2, q3, q4, q5, q6]
  have Fn8 := fun_mk (st := s_Sky___init__) l8 c8 k8
  have bd8 := Fn8.binds (ps := P_Sky___init__) fun _ _ _ _ _ _ us hl => match us, hl with | [_, _, _, _], _ => rfl
  have FO8 : FnOk G.P G.w G.K G.mg G.base (L2.CX G.P G.w) 2 f8 _ P_Sky___init__ (spM G 4 [0] FM_Sky) := fnM 100000 5 [0] Fn8 bi rfl ok_Sky___init__ rq8
  have K_Sky : ∀ lv, 3 ≤ lv → MakeOk G lv "Sky" 3 F_Sky := fun lv hl => ⟨⟨C4, f8, _, 2, P_Sky___init__, FM_Sky, hl, PySem.W.mg_of X Gn aC4, ⟨mk4, a8, i8, kc4⟩, FO8, bd8, fun _ => rfl⟩⟩
  have rq9 : reqSs G 3 ir__law_made := by
    have q0 := K_Sky 3 (by decide)
    simp only [ir__law_made, reqSs, reqS, reqE, reqEs, reqQ, reqQs, reqO, reqI, reqHs, lenEs, List.map_cons, List.map_nil, true_and, and_true, and_self, q0]
  have Fn9 := fun_mk (st := s__law_made) l9 c9 k9
  have bd9 := Fn9.binds (ps := P__law_made) fun _ _ _ _ _ _ us hl => match us, hl with | [_], _ => rfl
  have FO9 : FnOk G.P G.w G.K G.mg G.base (L2.CX G.P G.w) 4 f9 _ P__law_made (spD G 1 F__law_made) := fnD 100000 1 Fn9 bi rfl ok__law_made rq9
  have C__law_made : ∀ lv, 4 ≤ lv → CallOk G lv "_law_made" 1 F__law_made := fun lv hl => ⟨⟨4, f9, _, P__law_made, hl, FO9, PySem.W.mg_of X Gn a9, k9, bd9⟩⟩
  have rq10 : reqSs G 0 ir__law_attitude := by
    simp only [ir__law_attitude, reqSs, reqS, reqE, reqEs, reqQ, reqQs, reqO, reqI, reqHs, lenEs, List.map_cons, List.map_nil, true_and, and_true, and_self]
  have Fn10 := fun_mk (st := s__law_attitude) l10 c10 k10
  have bd10 := Fn10.binds (ps := P__law_attitude) fun _ _ _ _ _ _ us hl => match us, hl with | [_, _, _], _ => rfl
  have FO10 : FnOk G.P G.w G.K G.mg G.base (L2.CX G.P G.w) 1 f10 _ P__law_attitude (spD G 3 F__law_attitude) := fnD 100000 3 Fn10 bi rfl ok__law_attitude rq10
  have C__law_attitude : ∀ lv, 1 ≤ lv → CallOk G lv "_law_attitude" 3 F__law_attitude := fun lv hl => ⟨⟨1, f10, _, P__law_attitude, hl, FO10, PySem.W.mg_of X Gn a10, k10, bd10⟩⟩
  have rq11 : reqSs G 0 ir__law_command := by
    simp only [ir__law_command, reqSs, reqS, reqE, reqEs, reqQ, reqQs, reqO, reqI, reqHs, lenEs, List.map_cons, List.map_nil, true_and, and_true, and_self]
  have Fn11 := fun_mk (st := s__law_command) l11 c11 k11
  have bd11 := Fn11.binds (ps := P__law_command) fun _ _ _ _ _ _ us hl => match us, hl with | [_, _], _ => rfl
  have FO11 : FnOk G.P G.w G.K G.mg G.base (L2.CX G.P G.w) 1 f11 _ P__law_command (spD G 2 F__law_command) := fnD 100000 3 Fn11 bi rfl ok__law_command rq11
  have C__law_command : ∀ lv, 1 ≤ lv → CallOk G lv "_law_command" 2 F__law_command := fun lv hl => ⟨⟨1, f11, _, P__law_command, hl, FO11, PySem.W.mg_of X Gn a11, k11, bd11⟩⟩
  have rq12 : reqSs G 1 ir__law_commands := by
    have q0 := C__law_command 1 (by decide)
    simp only [ir__law_commands, b0__law_commands, reqSs, reqS, reqE, reqEs, reqQ, reqQs, reqO, reqI, reqHs, lenEs, List.map_cons, List.map_nil, true_and, and_true, and_self, q0]
  have Fn12 := fun_mk (st := s__law_commands) l12 c12 k12
  have bd12 := Fn12.binds (ps := P__law_commands) fun _ _ _ _ _ _ us hl => match us, hl with | [_, _, _], _ => rfl
  have FO12 : FnOk G.P G.w G.K G.mg G.base (L2.CX G.P G.w) 2 f12 _ P__law_commands (spD G 3 F__law_commands) := fnD 100000 6 Fn12 bi rfl ok__law_commands rq12
  have C__law_commands : ∀ lv, 2 ≤ lv → CallOk G lv "_law_commands" 3 F__law_commands := fun lv hl => ⟨⟨2, f12, _, P__law_commands, hl, FO12, PySem.W.mg_of X Gn a12, k12, bd12⟩⟩
  have rq13 : reqSs G 0 ir_is_motion := by
    simp only [ir_is_motion, reqSs, reqS, reqE, reqEs, reqQ, reqQs, reqO, reqI, reqHs, lenEs, List.map_cons, List.map_nil, true_and, and_true, and_self]
  have Fn13 := fun_mk (st := s_is_motion) l13 c13 k13
  have bd13 := Fn13.binds (ps := P_is_motion) fun _ _ _ _ _ _ us hl => match us, hl with | [_, _], _ => rfl
  have FO13 : FnOk G.P G.w G.K G.mg G.base (L2.CX G.P G.w) 1 f13 _ P_is_motion (spD G 2 F_is_motion) := fnD 100000 2 Fn13 bi rfl ok_is_motion rq13
  have C_is_motion : ∀ lv, 1 ≤ lv → CallOk G lv "is_motion" 2 F_is_motion := fun lv hl => ⟨⟨1, f13, _, P_is_motion, hl, FO13, PySem.W.mg_of X Gn a13, k13, bd13⟩⟩
  have rq14 : reqSs G 0 ir_Sky_side := by
    have q0 := fo1
    simp only [ir_Sky_side, reqSs, reqS, reqE, reqEs, reqQ, reqQs, reqO, reqI, reqHs, lenEs, List.map_cons, List.map_nil, true_and, and_true, and_self, q0]
  have Fn14 := fun_mk (st := s_Sky_side) l14 c14 k14
  have bd14 := Fn14.binds (ps := P_Sky_side) fun _ _ _ _ _ _ us hl => match us, hl with | [_], _ => rfl
  have FO14 : FnOk G.P G.w G.K G.mg G.base (L2.CX G.P G.w) 1 f14 _ P_Sky_side (spD G 1 F_Sky_side) := fnD 100000 1 Fn14 bi rfl ok_Sky_side rq14
  have P_Sky_side : ∀ lv, 2 ≤ lv → PropOk G lv "Sky" "side" F_Sky_side := fun lv hl => ⟨⟨C4, p14, f14, _, 1, P_Sky_side, hl, PySem.W.mg_of X Gn aC4, cl4_, ⟨a14, pa14, pb14, ⟨_, pc14⟩⟩, FO14, bd14⟩⟩
  have rq15 : reqSs G 2 ir_check_attitude := by
    have q0 := C_is_motion 2 (by decide)
    have q1 := P_Sky_side 2 (by decide)
    have q2 := ro2 2 (by decide)
    simp only [ir_check_attitude, reqSs, reqS, reqE, reqEs, reqQ, reqQs, reqO, reqI, reqHs, lenEs, List.map_cons, List.map_nil, true_and, and_true, and_self, q0, q1, q2]
  have Fn15 := fun_mk (st := s_check_attitude) l15 c15 k15
  have bd15 := Fn15.binds (ps := P_check_attitude) fun _ _ _ _ _ _ us hl => match us, hl with | [_, _], _ => rfl
  have FO15 : FnOk G.P G.w G.K G.mg G.base (L2.CX G.P G.w) 3 f15 _ P_check_attitude (spD G 2 F_check_attitude) := fnD 100000 2 Fn15 bi rfl ok_check_attitude rq15
  have C_check_attitude : ∀ lv, 3 ≤ lv → CallOk G lv "check_attitude" 2 F_check_attitude := fun lv hl => ⟨⟨3, f15, _, P_check_attitude, hl, FO15, PySem.W.mg_of X Gn a15, k15, bd15⟩⟩
  have rq16 : reqSs G 2 ir_check_command := by
    have q0 := P_Sky_side 2 (by decide)
    have q1 := ro3 2 (by decide)
    simp only [ir_check_command, reqSs, reqS, reqE, reqEs, reqQ, reqQs, reqO, reqI, reqHs, lenEs, List.map_cons, List.map_nil, true_and, and_true, and_self, q0, q1]
  have Fn16 := fun_mk (st := s_check_command) l16 c16 k16
  have bd16 := Fn16.binds (ps := P_check_command) fun _ _ _ _ _ _ us hl => match us, hl with | [_, _], _ => rfl
  have FO16 : FnOk G.P G.w G.K G.mg G.base (L2.CX G.P G.w) 3 f16 _ P_check_command (spD G 2 F_check_command) := fnD 100000 2 Fn16 bi rfl ok_check_command rq16
  have C_check_command : ∀ lv, 3 ≤ lv → CallOk G lv "check_command" 2 F_check_command := fun lv hl => ⟨⟨3, f16, _, P_check_command, hl, FO16, PySem.W.mg_of X Gn a16, k16, bd16⟩⟩
  have rq17 : reqSs G 3 ir_check_commands_rows := by
    have q0 := C_check_command 3 (by decide)
    simp only [ir_check_commands_rows, b0_check_commands_rows, reqSs, reqS, reqE, reqEs, reqQ, reqQs, reqO, reqI, reqHs, lenEs, List.map_cons, List.map_nil, true_and, and_true, and_self, q0]
  have Fn17 := fun_mk (st := s_check_commands_rows) l17 c17 k17
  have bd17 := Fn17.binds (ps := P_check_commands_rows) fun _ _ _ _ _ _ us hl => match us, hl with | [_, _], _ => rfl
  have FO17 : FnOk G.P G.w G.K G.mg G.base (L2.CX G.P G.w) 4 f17 _ P_check_commands_rows (spD G 2 F_check_commands_rows) := fnD 100000 3 Fn17 bi rfl ok_check_commands_rows rq17
  have C_check_commands_rows : ∀ lv, 4 ≤ lv → CallOk G lv "check_commands_rows" 2 F_check_commands_rows := fun lv hl => ⟨⟨4, f17, _, P_check_commands_rows, hl, FO17, PySem.W.mg_of X Gn a17, k17, bd17⟩⟩
  have rq18 : reqSs G 0 ir_turned := by
    simp only [ir_turned, b0_turned, reqSs, reqS, reqE, reqEs, reqQ, reqQs, reqO, reqI, reqHs, lenEs, List.map_cons, List.map_nil, true_and, and_true, and_self]
  have Fn18 := fun_mk (st := s_turned) l18 c18 k18
  have bd18 := Fn18.binds (ps := P_turned) fun _ _ _ _ _ _ us hl => match us, hl with | [_, _], _ => rfl
  have FO18 : FnOk G.P G.w G.K G.mg G.base (L2.CX G.P G.w) 1 f18 _ P_turned (spD G 2 F_turned) := fnD 100000 5 Fn18 bi rfl ok_turned rq18
  have C_turned : ∀ lv, 1 ≤ lv → CallOk G lv "turned" 2 F_turned := fun lv hl => ⟨⟨1, f18, _, P_turned, hl, FO18, PySem.W.mg_of X Gn a18, k18, bd18⟩⟩
  have rq19 : reqSs G 3 ir_commanded := by
    have q0 := C_check_attitude 3 (by decide)
    have q1 := C_check_command 3 (by decide)
    have q2 := C_turned 3 (by decide)
    have q3 := P_Sky_side 3 (by decide)
    simp only [ir_commanded, reqSs, reqS, reqE, reqEs, reqQ, reqQs, reqO, reqI, reqHs, lenEs, List.map_cons, List.map_nil, true_and, and_true, and_self, q0, q1, q2, q3]
  have Fn19 := fun_mk (st := s_commanded) l19 c19 k19
  have bd19 := Fn19.binds (ps := P_commanded) fun _ _ _ _ _ _ us hl => match us, hl with | [_, _, _], _ => rfl
  have FO19 : FnOk G.P G.w G.K G.mg G.base (L2.CX G.P G.w) 4 f19 _ P_commanded (spD G 3 F_commanded) := fnD 100000 5 Fn19 bi rfl ok_commanded rq19
  have C_commanded : ∀ lv, 4 ≤ lv → CallOk G lv "commanded" 3 F_commanded := fun lv hl => ⟨⟨4, f19, _, P_commanded, hl, FO19, PySem.W.mg_of X Gn a19, k19, bd19⟩⟩
  have rq20 : reqSs G 4 ir_course := by
    have q0 := C_check_attitude 4 (by decide)
    have q1 := C_check_commands_rows 4 (by decide)
    have q2 := C_commanded 4 (by decide)
    simp only [ir_course, b0_course, reqSs, reqS, reqE, reqEs, reqQ, reqQs, reqO, reqI, reqHs, lenEs, List.map_cons, List.map_nil, true_and, and_true, and_self, q0, q1, q2]
  have Fn20 := fun_mk (st := s_course) l20 c20 k20
  have bd20 := Fn20.binds (ps := P_course) fun _ _ _ _ _ _ us hl => match us, hl with | [_, _, _], _ => rfl
  have FO20 : FnOk G.P G.w G.K G.mg G.base (L2.CX G.P G.w) 5 f20 _ P_course (spD G 3 F_course) := fnD 100000 5 Fn20 bi rfl ok_course rq20
  have C_course : ∀ lv, 5 ≤ lv → CallOk G lv "course" 3 F_course := fun lv hl => ⟨⟨5, f20, _, P_course, hl, FO20, PySem.W.mg_of X Gn a20, k20, bd20⟩⟩
  have rq21 : reqSs G 5 ir_as_one := by
    have q0 := C_course 5 (by decide)
    simp only [ir_as_one, reqSs, reqS, reqE, reqEs, reqQ, reqQs, reqO, reqI, reqHs, lenEs, List.map_cons, List.map_nil, true_and, and_true, and_self, q0]
  have Fn21 := fun_mk (st := s_as_one) l21 c21 k21
  have bd21 := Fn21.binds (ps := P_as_one) fun _ _ _ _ _ _ us hl => match us, hl with | [_, _], _ => rfl
  have FO21 : FnOk G.P G.w G.K G.mg G.base (L2.CX G.P G.w) 6 f21 _ P_as_one (spD G 2 F_as_one) := fnD 100000 2 Fn21 bi rfl ok_as_one rq21
  have C_as_one : ∀ lv, 6 ≤ lv → CallOk G lv "as_one" 2 F_as_one := fun lv hl => ⟨⟨6, f21, _, P_as_one, hl, FO21, PySem.W.mg_of X Gn a21, k21, bd21⟩⟩
  have rq22 : reqSs G 1 ir__law_commanded := by
    have q0 := C__law_turned 1 (by decide)
    simp only [ir__law_commanded, reqSs, reqS, reqE, reqEs, reqQ, reqQs, reqO, reqI, reqHs, lenEs, List.map_cons, List.map_nil, true_and, and_true, and_self, q0]
  have Fn22 := fun_mk (st := s__law_commanded) l22 c22 k22
  have bd22 := Fn22.binds (ps := P__law_commanded) fun _ _ _ _ _ _ us hl => match us, hl with | [_, _, _], _ => rfl
  have FO22 : FnOk G.P G.w G.K G.mg G.base (L2.CX G.P G.w) 2 f22 _ P__law_commanded (spD G 3 F__law_commanded) := fnD 100000 5 Fn22 bi rfl ok__law_commanded rq22
  have C__law_commanded : ∀ lv, 2 ≤ lv → CallOk G lv "_law_commanded" 3 F__law_commanded := fun lv hl => ⟨⟨2, f22, _, P__law_commanded, hl, FO22, PySem.W.mg_of X Gn a22, k22, bd22⟩⟩
  have rq23 : reqSs G 2 ir__law_course := by
    have q0 := C__law_commanded 2 (by decide)
    simp only [ir__law_course, b0__law_course, reqSs, reqS, reqE, reqEs, reqQ, reqQs, reqO, reqI, reqHs, lenEs, List.map_cons, List.map_nil, true_and, and_true, and_self, q0]
  have Fn23 := fun_mk (st := s__law_course) l23 c23 k23
  have bd23 := Fn23.binds (ps := P__law_course) fun _ _ _ _ _ _ us hl => match us, hl with | [_, _, _], _ => rfl
  have FO23 : FnOk G.P G.w G.K G.mg G.base (L2.CX G.P G.w) 3 f23 _ P__law_course (spD G 3 F__law_course) := fnD 100000 5 Fn23 bi rfl ok__law_course rq23
  have C__law_course : ∀ lv, 3 ≤ lv → CallOk G lv "_law_course" 3 F__law_course := fun lv hl => ⟨⟨3, f23, _, P__law_course, hl, FO23, PySem.W.mg_of X Gn a23, k23, bd23⟩⟩
  have rq24 : reqSs G 2 ir__law_rows := by
    have q0 := C__law_commanded 2 (by decide)
    simp only [ir__law_rows, t0__law_rows, b1__law_rows, b2__law_rows, reqSs, reqS, reqE, reqEs, reqQ, reqQs, reqO, reqI, reqHs, lenEs, List.map_cons, List.map_nil, true_and, and_true, and_self, q0]
  have Fn24 := fun_mk (st := s__law_rows) l24 c24 k24
  have bd24 := Fn24.binds (ps := P__law_rows) fun _ _ _ _ _ _ us hl => match us, hl with | [_, _, _], _ => rfl
  have FO24 : FnOk G.P G.w G.K G.mg G.base (L2.CX G.P G.w) 3 f24 _ P__law_rows (spD G 3 F__law_rows) := fnD 100000 8 Fn24 bi rfl ok__law_rows rq24
  have C__law_rows : ∀ lv, 3 ≤ lv → CallOk G lv "_law_rows" 3 F__law_rows := fun lv hl => ⟨⟨3, f24, _, P__law_rows, hl, FO24, PySem.W.mg_of X Gn a24, k24, bd24⟩⟩
  have rq25 : reqSs G 3 ir_check_commands_turns := by
    have q0 := C_check_command 3 (by decide)
    simp only [ir_check_commands_turns, b0_check_commands_turns, reqSs, reqS, reqE, reqEs, reqQ, reqQs, reqO, reqI, reqHs, lenEs, List.map_cons, List.map_nil, true_and, and_true, and_self, q0]
  have Fn25 := fun_mk (st := s_check_commands_turns) l25 c25 k25
  have bd25 := Fn25.binds (ps := P_check_commands_turns) fun _ _ _ _ _ _ us hl => match us, hl with | [_, _], _ => rfl
  have FO25 : FnOk G.P G.w G.K G.mg G.base (L2.CX G.P G.w) 4 f25 _ P_check_commands_turns (spD G 2 F_check_commands_turns) := fnD 100000 3 Fn25 bi rfl ok_check_commands_turns rq25
  have C_check_commands_turns : ∀ lv, 4 ≤ lv → CallOk G lv "check_commands_turns" 2 F_check_commands_turns := fun lv hl => ⟨⟨4, f25, _, P_check_commands_turns, hl, FO25, PySem.W.mg_of X Gn a25, k25, bd25⟩⟩
  have rq26 : reqSs G 4 ir_ways_from := by
    have q0 := C_commanded 4 (by decide)
    simp only [ir_ways_from, t0_ways_from, b1_ways_from, b2_ways_from, reqSs, reqS, reqE, reqEs, reqQ, reqQs, reqO, reqI, reqHs, lenEs, List.map_cons, List.map_nil, true_and, and_true, and_self, q0]
  have Fn26 := fun_mk (st := s_ways_from) l26 c26 k26
  have bd26 := Fn26.binds (ps := P_ways_from) fun _ _ _ _ _ _ us hl => match us, hl with | [_, _, _], _ => rfl
  have FO26 : FnOk G.P G.w G.K G.mg G.base (L2.CX G.P G.w) 5 f26 _ P_ways_from (spD G 3 F_ways_from) := fnD 100000 8 Fn26 bi rfl ok_ways_from rq26
  have C_ways_from : ∀ lv, 5 ≤ lv → CallOk G lv "ways_from" 3 F_ways_from := fun lv hl => ⟨⟨5, f26, _, P_ways_from, hl, FO26, PySem.W.mg_of X Gn a26, k26, bd26⟩⟩
  have rq27 : reqSs G 5 ir_reached := by
    have q0 := C_check_attitude 5 (by decide)
    have q1 := C_check_commands_turns 5 (by decide)
    have q2 := C_ways_from 5 (by decide)
    simp only [ir_reached, reqSs, reqS, reqE, reqEs, reqQ, reqQs, reqO, reqI, reqHs, lenEs, List.map_cons, List.map_nil, true_and, and_true, and_self, q0, q1, q2]
  have Fn27 := fun_mk (st := s_reached) l27 c27 k27
  have bd27 := Fn27.binds (ps := P_reached) fun _ _ _ _ _ _ us hl => match us, hl with | [_, _, _], _ => rfl
  have FO27 : FnOk G.P G.w G.K G.mg G.base (L2.CX G.P G.w) 6 f27 _ P_reached (spD G 3 F_reached) := fnD 100000 3 Fn27 bi rfl ok_reached rq27
  have C_reached : ∀ lv, 6 ≤ lv → CallOk G lv "reached" 3 F_reached := fun lv hl => ⟨⟨6, f27, _, P_reached, hl, FO27, PySem.W.mg_of X Gn a27, k27, bd27⟩⟩
  have rq28 : reqSs G 0 ir_row_along := by
    simp only [ir_row_along, t0_row_along, b1_row_along, reqSs, reqS, reqE, reqEs, reqQ, reqQs, reqO, reqI, reqHs, lenEs, List.map_cons, List.map_nil, true_and, and_true, and_self]
  have Fn28 := fun_mk (st := s_row_along) l28 c28 k28
  have bd28 := Fn28.binds (ps := P_row_along) fun _ _ _ _ _ _ us hl => match us, hl with | [_, _], _ => rfl
  have FO28 : FnOk G.P G.w G.K G.mg G.base (L2.CX G.P G.w) 1 f28 _ P_row_along (spD G 2 F_row_along) := fnD 100000 4 Fn28 bi rfl ok_row_along rq28
  have C_row_along : ∀ lv, 1 ≤ lv → CallOk G lv "row_along" 2 F_row_along := fun lv hl => ⟨⟨1, f28, _, P_row_along, hl, FO28, PySem.W.mg_of X Gn a28, k28, bd28⟩⟩
  have rq29 : reqSs G 5 ir_row_to := by
    have q0 := C_check_attitude 5 (by decide)
    have q1 := C_check_commands_turns 5 (by decide)
    have q2 := C_ways_from 5 (by decide)
    have q3 := C_row_along 5 (by decide)
    simp only [ir_row_to, reqSs, reqS, reqE, reqEs, reqQ, reqQs, reqO, reqI, reqHs, lenEs, List.map_cons, List.map_nil, true_and, and_true, and_self, q0, q1, q2, q3]
  have Fn29 := fun_mk (st := s_row_to) l29 c29 k29
  have bd29 := Fn29.binds (ps := P_row_to) fun _ _ _ _ _ _ us hl => match us, hl with | [_, _, _, _], _ => rfl
  have FO29 : FnOk G.P G.w G.K G.mg G.base (L2.CX G.P G.w) 6 f29 _ P_row_to (spD G 4 F_row_to) := fnD 100000 5 Fn29 bi rfl ok_row_to rq29
  have C_row_to : ∀ lv, 6 ≤ lv → CallOk G lv "row_to" 4 F_row_to := fun lv hl => ⟨⟨6, f29, _, P_row_to, hl, FO29, PySem.W.mg_of X Gn a29, k29, bd29⟩⟩
  have rq30 : reqSs G 6 ir__law_told := by
    have q0 := C_as_one 6 (by decide)
    have q1 := C_reached 6 (by decide)
    have q2 := C_row_to 6 (by decide)
    have q3 := xo3_command
    have q4 := xo2_attitude
    simp only [ir__law_told, reqSs, reqS, reqE, reqEs, reqQ, reqQs, reqO, reqI, reqHs, lenEs, List.map_cons, List.map_nil, true_and, and_true, and_self, q0, q1, q2, q3, q4]
    all_goals (repeat first | assumption | trivial | (refine hds_cons ho_InvalidAttitude ?_) | (refine hds_cons ho_InvalidCommand ?_) | exact hds_nil | exact rfl | (refine ⟨_, _, rfl, ?_, ?_⟩) | (refine ⟨_, ?_⟩) | (refine And.intro ?_ ?_))
  have Fn30 := fun_mk (st := s__law_told) l30 c30 k30
  have bd30 := Fn30.binds (ps := P__law_told) fun _ _ _ _ _ _ us hl => match us, hl with | [_, _, _, _, _], _ => rfl
  have FO30 : FnOk G.P G.w G.K G.mg G.base (L2.CX G.P G.w) 7 f30 _ P__law_told (spD G 5 F__law_told) := fnD 100000 6 Fn30 bi rfl ok__law_told rq30
  have C__law_told : ∀ lv, 7 ≤ lv → CallOk G lv "_law_told" 5 F__law_told := fun lv hl => ⟨⟨7, f30, _, P__law_told, hl, FO30, PySem.W.mg_of X Gn a30, k30, bd30⟩⟩
  have rq31 : reqSs G 7 ir_law := by
    have q0 := C__law_numbers 7 (by decide)
    have q1 := C__law_sky 7 (by decide)
    have q2 := C__law_made 7 (by decide)
    have q3 := C__law_attitude 7 (by decide)
    have q4 := C__law_commands 7 (by decide)
    have q5 := C__law_command 7 (by decide)
    have q6 := C_as_one 7 (by decide)
    have q7 := C__law_course 7 (by decide)
    have q8 := C__law_commanded 7 (by decide)
    have q9 := C__law_rows 7 (by decide)
    have q10 := C_reached 7 (by decide)
    have q11 := C_row_to 7 (by decide)
    have q12 := C__law_told 7 (by decide)
    simp only [ir_law, e0_law, e1_law, e2_law, reqSs, reqS, reqE, reqEs, reqQ, reqQs, reqO, reqI, reqHs, lenEs, List.map_cons, List.map_nil, true_and, and_true, and_self, q0, q1, q2, q3, q4, q5, q6, q7, q8, q9, q10, q11, q12]
  have Fn31 := fun_mk (st := s_law) l31 c31 k31
  have bd31 := Fn31.binds (ps := P_law) fun _ _ _ _ _ _ us hl => match us, hl with | [_], _ => rfl
  have FO31 : FnOk G.P G.w G.K G.mg G.base (L2.CX G.P G.w) 8 fa _ P_law (spD G 1 F_law) := fnD 100000 18 Fn31 bi rfl ok_law rq31
  exact law_imp FO31 hpure
theorem walk {l : PySem.W.OpenLaw} {q : Program} {loose : List Str} {XP : (Str → Option Value) → Heap → Prop} {YP : World → Heap → Prop} {d : DefRec} {K : Params → PySem.W.Frag} (hn : l.most = some 63) (hdf : d.params.defaults = [])
    (hY : ∀ (w : World) (h : Heap), YP w h → (K w.params).In h)
    (F : ∀ (w : World) (mg : Str → Option Value) (fa : Addr) (h : Heap), (K w.params).In h → h.Ns mainGlobals mg → mg d.name = some (.ref fa) →
      ∃ fd : FuncData, (∀ (s : Shared) (u : Value), BindsTo s fd ⟨[u], []⟩ [("_law_script", u)]) ∧ ∀ base : Heap, (K w.params).In base → base.Ns mainGlobals mg → FnOk l.prog w (K w.params) mg base (L2.CX l.prog w) 8 fa fd ["_law_script"] (M.spLaw (K w.params))) :
    PySem.W.WalkO q loose XP YP l.row.toRowW d [] (fun f vs => PySem.call f vs) :=
  L2.walk_of (n := 63) (k := 8) (x := "_law_script") (CX := fun w => L2.CX l.prog w) (sp := fun w => M.spLaw (K w.params)) hn (by decide) hdf ⟨rfl, by decide, by decide⟩ hY F (fun _ _ a ns hl _ hS => ⟨a, ns, rfl, hS, hl, fun _ _ e => e⟩) fun w H s e s' z => by
    obtain ⟨_, _, _, _, _, _, _, _, _, _, _, _, y⟩ := z
    exact y
end K47
set_option Elab.async false
set_option linter.all false
set_option maxRecDepth 100000
set_option maxHeartbeats 4000000


open PySem PySem.W PyProof.Rows in
set_option maxRecDepth 100000 in
set_option maxHeartbeats 0 in
theorem PySem.Challenge.cw_starward_k47_what_commands_reach_holds : PySem.Challenge.rw_starward_k47_what_commands_reach.Holds := by
  w_on; o_law; k_head; (case hw => w_witness2)
  k_fill
  refine K47.walk (l := PySem.Challenge.rw_starward_k47_what_commands_reach) rfl rfl (fun w h Y => PySem.W.kIn_of Y) ?F
  case F =>
    intro w mg fa h KX G hmg
    refine' K47.all_mk KX G hmg ?z0 ?z1 ?z2 ?z3 ?z4 ?z5 ?z6 ?z7 ?z8 ?z9 ?z10 ?z11 ?z12 ?z13 ?z14 ?z15 ?z16 ?z17 ?z18 ?z19 ?gc0 ?aC4 ?pg4 ?hd4 ?po4 ?sa4 ?mk4 ?kc4 ?nf0 ?nf1 ?nf2 ?aC0 ?aC1 ?aC2 ?aC3 ?xk2 ?xs2 ?xt2 ?xk3 ?xs3 ?xt3 ?xk1 ?xs1 ?xt1 ?xi1 ?xn2_attitude ?xn3_command ?ga2 ?gg2 ?xh2 ?ga3 ?gg3 ?xh3 ?opq ?xL2 ?xr2 ?xa2 ?xf2 ?xy2 ?xl2 ?xc2 ?xd2 ?xv2 ?xw2 ?xe2 ?xm2 ?xp2 ?xu2 ?xL3 ?xr3 ?xa3 ?xf3 ?xy3 ?xl3 ?xc3 ?xd3 ?xv3 ?xw3 ?xe3 ?xm3 ?xp3 ?xu3 ?tsu ?xg2 ?su_InvalidAttitude_0 ?su_InvalidAttitude_1 ?su_InvalidAttitude_2 ?su_InvalidAttitude_3 ?xg3 ?su_InvalidCommand_0 ?su_InvalidCommand_1 ?su_InvalidCommand_2 ?su_InvalidCommand_3 ?a0 ?l0 ?c0 ?k0 ?a1 ?l1 ?c1 ?k1 ?a2 ?l2 ?c2 ?k2 ?a3 ?l3 ?c3 ?k3 ?a4 ?l4 ?c4 ?k4 ?a5 ?l5 ?c5 ?k5 ?a6 ?l6 ?c6 ?k6 ?a7 ?l7 ?c7 ?k7 ?a8 ?i8 ?l8 ?c8 ?k8 ?a9 ?l9 ?c9 ?k9 ?a10 ?l10 ?c10 ?k10 ?a11 ?l11 ?c11 ?k11 ?a12 ?l12 ?c12 ?k12 ?a13 ?l13 ?c13 ?k13 ?a14 ?pa14 ?pb14 ?pc14 ?l14 ?c14 ?k14 ?a15 ?l15 ?c15 ?k15 ?a16 ?l16 ?c16 ?k16 ?a17 ?l17 ?c17 ?k17 ?a18 ?l18 ?c18 ?k18 ?a19 ?l19 ?c19 ?k19 ?a20 ?l20 ?c20 ?k20 ?a21 ?l21 ?c21 ?k21 ?a22 ?l22 ?c22 ?k22 ?a23 ?l23 ?c23 ?k23 ?a24 ?l24 ?c24 ?k24 ?a25 ?l25 ?c25 ?k25 ?a26 ?l26 ?c26 ?k26 ?a27 ?l27 ?c27 ?k27 ?a28 ?l28 ?c28 ?k28 ?a29 ?l29 ?c29 ?k29 ?a30 ?l30 ?c30 ?k30 ?a31 ?l31 ?c31 ?k31 K47.pure_law
    (case z0 => k_is)
    (case z1 => k_is)
    (case z2 => k_is)
    (case z3 => k_is)
    (case z4 => k_is)
    (case z5 => k_is)
    (case z6 => k_is)
    (case z7 => k_is)
    (case z8 => k_is)
    (case z9 => k_is)
    (case z10 => k_is)
    (case z11 => k_is)
    (case z12 => k_is)
    (case z13 => k_is)
    (case z14 => k_is)
    (case z15 => k_is)
    (case z16 => k_is)
    (case z17 => k_is)
    (case z18 => k_is)
    (case z19 => k_is)
    (case gc0 => k_is)
    (case aC4 => k_is)
    (case pg4 => k_is)
    (case hd4 => k_is)
    (case po4 => k_is)
    (case sa4 => k_is)
    (case mk4 => k_is)
    (case kc4 => k_is)
    (case nf0 => k_is)
    (case nf1 => k_is)
    (case nf2 => k_is)
    (case aC0 => k_is)
    (case aC1 => k_is)
    (case aC2 => k_is)
    (case aC3 => k_is)
    (case xk2 => k_is)
    (case xs2 => k_is)
    (case xt2 => k_is)
    (case xk3 => k_is)
    (case xs3 => k_is)
    (case xt3 => k_is)
    (case xk1 => k_is)
    (case xs1 => k_is)
    (case xt1 => k_is)
    (case xi1 => k_exc)
    (case xn2_attitude => k_is)
    (case xn3_command => k_is)
    (case ga2 => k_is)
    (case gg2 => k_is)
    (case xh2 => k_is)
    (case ga3 => k_is)
    (case gg3 => k_is)
    (case xh3 => k_is)
    (case opq => k_is)
    (case xL2 => k_is)
    (case xr2 => decide +kernel)
    (case xa2 => k_is)
    (case xf2 => k_is)
    (case xy2 => k_is)
    (case xl2 => k_is)
    (case xc2 => k_is)
    (case xd2 => k_is)
    (case xv2 => first | rfl | decide +kernel)
    (case xw2 => first | rfl | decide +kernel)
    (case xe2 => k_is)
    (case xm2 => k_is)
    (case xp2 => ks_is)
    (case xu2 => k_is)
    (case xL3 => k_is)
    (case xr3 => decide +kernel)
    (case xa3 => k_is)
    (case xf3 => k_is)
    (case xy3 => k_is)
    (case xl3 => k_is)
    (case xc3 => k_is)
    (case xd3 => k_is)
    (case xv3 => first | rfl | decide +kernel)
    (case xw3 => first | rfl | decide +kernel)
    (case xe3 => k_is)
    (case xm3 => k_is)
    (case xp3 => ks_is)
    (case xu3 => k_is)
    (case tsu => first | rfl | decide +kernel)
    (case xg2 => k_is)
    (case su_InvalidAttitude_0 => first | rfl | k_is)
    (case su_InvalidAttitude_1 => first | rfl | k_is)
    (case su_InvalidAttitude_2 => first | rfl | k_is)
    (case su_InvalidAttitude_3 => first | rfl | k_is)
    (case xg3 => k_is)
    (case su_InvalidCommand_0 => first | rfl | k_is)
    (case su_InvalidCommand_1 => first | rfl | k_is)
    (case su_InvalidCommand_2 => first | rfl | k_is)
    (case su_InvalidCommand_3 => first | rfl | k_is)
    (case a0 => k_is)
    (case l0 => k_is)
    (case c0 => k_is)
    (case k0 => k_is)
    (case a1 => k_is)
    (case l1 => k_is)
    (case c1 => k_is)
    (case k1 => k_is)
    (case a2 => k_is)
    (case l2 => k_is)
    (case c2 => k_is)
    (case k2 => k_is)
    (case a3 => k_is)
    (case l3 => k_is)
    (case c3 => k_is)
    (case k3 => k_is)
    (case a4 => k_is)
    (case l4 => k_is)
    (case c4 => k_is)
    (case k4 => k_is)
    (case a5 => k_is)
    (case l5 => k_is)
    (case c5 => k_is)
    (case k5 => k_is)
    (case a6 => k_is)
    (case l6 => k_is)
    (case c6 => k_is)
    (case k6 => k_is)
    (case a7 => k_is)
    (case l7 => k_is)
    (case c7 => k_is)
    (case k7 => k_is)
    (case a8 => k_is)
    (case i8 => k_is)
    (case l8 => k_is)
    (case c8 => k_is)
    (case k8 => k_is)
    (case a9 => k_is)
    (case l9 => k_is)
    (case c9 => k_is)
    (case k9 => k_is)
    (case a10 => k_is)
    (case l10 => k_is)
    (case c10 => k_is)
    (case k10 => k_is)
    (case a11 => k_is)
    (case l11 => k_is)
    (case c11 => k_is)
    (case k11 => k_is)
    (case a12 => k_is)
    (case l12 => k_is)
    (case c12 => k_is)
    (case k12 => k_is)
    (case a13 => k_is)
    (case l13 => k_is)
    (case c13 => k_is)
    (case k13 => k_is)
    (case a14 => k_is)
    (case pa14 => k_is)
    (case pb14 => k_is)
    (case pc14 => k_is)
    (case l14 => k_is)
    (case c14 => k_is)
    (case k14 => k_is)
    (case a15 => k_is)
    (case l15 => k_is)
    (case c15 => k_is)
    (case k15 => k_is)
    (case a16 => k_is)
    (case l16 => k_is)
    (case c16 => k_is)
    (case k16 => k_is)
    (case a17 => k_is)
    (case l17 => k_is)
    (case c17 => k_is)
    (case k17 => k_is)
    (case a18 => k_is)
    (case l18 => k_is)
    (case c18 => k_is)
    (case k18 => k_is)
    (case a19 => k_is)
    (case l19 => k_is)
    (case c19 => k_is)
    (case k19 => k_is)
    (case a20 => k_is)
    (case l20 => k_is)
    (case c20 => k_is)
    (case k20 => k_is)
    (case a21 => k_is)
    (case l21 => k_is)
    (case c21 => k_is)
    (case k21 => k_is)
    (case a22 => k_is)
    (case l22 => k_is)
    (case c22 => k_is)
    (case k22 => k_is)
    (case a23 => k_is)
    (case l23 => k_is)
    (case c23 => k_is)
    (case k23 => k_is)
    (case a24 => k_is)
    (case l24 => k_is)
    (case c24 => k_is)
    (case k24 => k_is)
    (case a25 => k_is)
    (case l25 => k_is)
    (case c25 => k_is)
    (case k25 => k_is)
    (case a26 => k_is)
    (case l26 => k_is)
    (case c26 => k_is)
    (case k26 => k_is)
    (case a27 => k_is)
    (case l27 => k_is)
    (case c27 => k_is)
    (case k27 => k_is)
    (case a28 => k_is)
    (case l28 => k_is)
    (case c28 => k_is)
    (case k28 => k_is)
    (case a29 => k_is)
    (case l29 => k_is)
    (case c29 => k_is)
    (case k29 => k_is)
    (case a30 => k_is)
    (case l30 => k_is)
    (case c30 => k_is)
    (case k30 => k_is)
    (case a31 => k_is)
    (case l31 => k_is)
    (case c31 => k_is)
    (case k31 => k_is)
